import PyProof.Rows.All
import Wide.All
import OpenK.AllK
import Wide.FinOn
import KE.KStateDown
import Lean
import HandS.ForMost
import HandS.Exc
import HandS.More
import HandS.WordsExc
import HandS.Defaults
import HandS.Wide
import HandS.SortInts
import HandS.Rev
import HandS.IsInst
import HandS.Deep
import HandS.Zip
import KE.SortData
import KE.DataMinMax
import KE.DataCmp
import HandS.Head0
import HandS.Head1
import HandS.Head2
import HandS.HeadEnd
import HandS.HeadHook1
import HandS.HeadHook2
import HandS.Text
import HandS.Iter
import HandS.Walk
import HandS.ExcOwn
import HandS.ExcCtx
import HandS.ExcIs
import HandS.ExcInitHot
import HandS.Hot
import HandS.HotCalls
import HandS.TryMany
import HandS.SetFor
import KE.GoesComp
import KE.IntTextLaws
import PyProof.StrLawsChain
import PyProof.StrBlock2
import KE.GoesRaise
import KE.KAsSuite
import PySem.Challenge.RW_pilewheel_k19_read_or_refused
set_option Elab.async false
set_option linter.all false
set_option maxRecDepth 100000
set_option maxHeartbeats 4000000
namespace PW
open PySem PySem.Spec PyProof.Rows L2

/-! ### a def that may be called -/
structure Cal (P : Program) (w : World) (K : PySem.W.Frag) (mg : Str → Option Value) (base : Heap) (CX : CXT) (k : Nat) (x : Str) (ps : List Str) (sp : Sp) : Prop where
  ex : ∃ (f : Addr) (fd : FuncData), FnOk P w K mg base CX k f fd ps sp ∧ mg x = some (.ref f) ∧ PySem.W.keepIn K (.ref f) = true ∧ Binds K fd ps []
def DefAt (K : PySem.W.Frag) (mg : Str → Option Value) (x : Str) (st : Stmt) : Prop :=
  ∃ fd, FunD K x x (defArgs st) (defBody st) (defScope st) [] [] (He.ga K x) fd ∧ mg x = some (.ref (He.ga K x))
theorem pe_callF {X : Cx} {k : Nat} {x : Str} {ps : List Str} {sp : Sp} {e : Expr} {es : List Expr} {t : TA} {p pos : Pos} (C : Cal X.prog X.w X.K X.mg X.base CX0 k x ps sp) (hr : Room k X.A) (ha : PA X (e :: es) t) (hg : Gl X x := by rfl)
    (hdb : (x == ("__debug__" : Str)) = false := by decide) (he : starEach (e :: es) X.env = (false, eval e X.env) :: starEach es X.env := by rfl) (hpl : (backTo pos (starEach es X.env)).any (·.1) = false := by rfl) :
    PE X (.Call (.Name x p) (e :: es) [] pos) (tCall sp [] E0 t) := by
  obtain ⟨f, fd, F, hm, hk, hb⟩ := C.ex
  exact pe_call F hr hg hm hk hb .nil pass0 ha hdb he hpl
theorem pe_globX {X : Cx} {x : Str} {v : V} {pos : Pos} (h : ∃ u, X.mg x = some u ∧ RelV v u) (hg : Gl X x := by rfl) (hd : (x == ("__debug__" : Str)) = false := by decide) : PE X (.Name x pos) (tC v) := by
  obtain ⟨u, hm, r⟩ := h
  exact pe_glob hg hm r hd
theorem cal_mk {P : Program} {w : World} {K : PySem.W.Frag} {mg : Str → Option Value} {base : Heap} {x : Str} {st : Stmt} {N ps : List Str} {k : Nat} {sp : Sp} (D : DefAt K mg x st) (S : FnScope N ps (defScope st)) (len : ∀ vs H Q E, sp vs H Q E → vs.length = ps.length)
    (hb : ∀ (kV doc pm : Value) (an : Option Addr) (cdv ct : Value) (us : List Value), us.length = ps.length → bindArgs (PySem.W.fnOf x x (defArgs st) (defBody st) (defScope st) .none kV doc pm an cdv ct) ⟨us, []⟩ = pure (ps.zip us))
    (hbody : ∀ (f : Addr) (cdv : Value) (A : Around) (outer : List Env) (s : Shared) (H : Hp) (vs : List V) (Q : VK) (E : XK), Room k (A.deeper (envOfC x (defScope st) s.heap.objs.size f cdv)) → sp vs H Q E →
      ∃ t, PSs (cxOf CX0 P w K mg base N x (defScope st) f cdv A outer s H E).nox (defBody st) t ∧ t { nx := fun _ H' => Q .non H', rt := Q } (start N vs) H) : Cal P w K mg base CX0 (k + 1) x ps sp := by
  obtain ⟨fd, F, g⟩ := D
  refine ⟨⟨_, fd, F.ok S len (fun cdv A outer s H vs Q E hr h => ?_), g, F.kp, F.bindsN hb⟩⟩
  obtain ⟨t, h1, h2⟩ := hbody _ cdv A outer s H vs Q E hr h
  exact ⟨t, h1.nox, h2⟩
/-! ### heaps -/
theorem same_new {H : Hp} {p : Addr} (h : H p = none) (o : HO) : Same H (upd H p o) := fun b u q => by rw [upd_ne (ne_of_none q h)]; exact q
theorem same_mut {H H' : Hp} {p : Addr} (e : Same H H') (h : H p = none) (o : HO) : Same H (upd H' p o) := fun b u q => by
  rw [upd_ne (ne_of_none q h)]
  exact e b u q
theorem small {n : Nat} (h : n ≤ 100000) : n ≤ sizeLine := Nat.le_trans h (by decide)
theorem smallL {n : Nat} (h : n ≤ 100000) : n < sizeLine := Nat.lt_of_le_of_lt h (by decide)
/-- a list of ints that may be changed; the script -/
abbrev IL (H : Hp) (a : Addr) (ns : List Int) : Prop := H a = some (.lst (ns.map V.int))
abbrev SL (K : PySem.W.Frag) (H : Hp) (a : Addr) (ns : List Int) : Prop := SqL K H a (ns.map V.int)
/-- a new list of ints -/
abbrev NL (Q : VK) (H : Hp) (ns : List Int) : Prop := ∀ (H' : Hp) (p : Addr), Same H H' → H p = none → IL H' p ns → Q (.ref p) H'
theorem sq {K : PySem.W.Frag} {H : Hp} {a : Addr} {xs : List V} (h : H a = some (.lst xs)) : SqL K H a xs := .inl (.inl h)
theorem nlen {ns : List Int} : (ns.map V.int).length = ns.length := List.length_map _
theorem take_snoc {α : Type} {l : List α} {i : Nat} {x : α} (h : l[i]? = some x) : l.take (i + 1) = l.take i ++ [x] := by
  rw [List.take_add_one, h] <;> rfl
theorem cut_to (xs : List V) {j : Nat} (h : j ≤ xs.length) : cutV xs none (some (j : Int)) = xs.take j := by
  unfold cutV
  rw [HT.sIx_none, HT.sIx_nat, Nat.min_eq_left h] <;> rfl
theorem cut_from (xs : List V) {j : Nat} (h : j ≤ xs.length) : cutV xs (some (j : Int)) none = xs.drop j := by
  unfold cutV
  rw [HT.sIx_none, HT.sIx_nat, Nat.min_eq_left h]
  exact List.take_of_length_le (by rw [List.length_drop]; exact Nat.le_refl _)
theorem get_int {ns : List Int} {i : Nat} {x : V} (h : (ns.map V.int)[i]? = some x) : ∃ z, ns[i]? = some z ∧ x = .int z := by
  rw [List.getElem?_map] at h
  cases e : ns[i]? with
  | none => rw [e] at h; cases h
  | some z => rw [e] at h; exact ⟨z, rfl, (Option.some.inj h).symm⟩
theorem int_get {ns : List Int} {i : Nat} {z : Int} (h : ns[i]? = some z) : (ns.map V.int)[i]? = some (.int z) := by
  rw [List.getElem?_map, h] <;> rfl
/-- list(reversed(e)), e a list -/
def tListRev (K : PySem.W.Frag) (te : TE) : TE := fun σ H Q => te σ H fun v H1 => ∃ (a : Addr) (xs : List V), v = .ref a ∧ SqL K H1 a xs ∧ ∀ q, H1 q = none → Q (.ref q) (upd H1 q (.lst xs.reverse))
/-! ### rules within a comprehension: the written part by name -/
theorem ix_listK {X : Cx} (K : PySem.W.Frag) (h : X.K = K := by rfl) : IxR X (rIxL K) := by
  subst h
  exact ix_list
theorem call_len_seqK {X : Cx} (K : PySem.W.Frag) (h : X.K = K := by rfl) : CallR X (.builtin "len") (fun xs H Q => ∃ p ys, xs = [.ref p] ∧ (SqL K H p ys ∨ SqT K H p ys) ∧ Q (.int ys.length) H) := by
  subst h
  exact call_len_seq
theorem op_in_seqK {X : Cx} (K : PySem.W.Frag) (h : X.K = K := by rfl) : OpR X (compareOp .In) (rIn K false) := by
  subst h
  exact op_in_seq
theorem op_notIn_seqK {X : Cx} (K : PySem.W.Frag) (h : X.K = K := by rfl) : OpR X (compareOp .NotIn) (rIn K true) := by
  subst h
  exact op_notIn_seq
theorem sl_listK {X : Cx} (K : PySem.W.Frag) (h : X.K = K := by rfl) : SlR X (rSlL K) := by
  subst h
  exact sl_list
theorem hu65 {A : Around} {k : Nat} (r : Room k A) : A.units + 65 < cLine := by
  have := r.un
  omega
theorem call_list_ofK {X : Cx} (K : PySem.W.Frag) (h : X.K = K := by rfl) : CallR X (.type "list") (fun xs H Q => ∃ p ys, xs = [.ref p] ∧ (SqL K H p ys ∨ SqT K H p ys) ∧ ∀ l, H l = none → Q (.ref l) (upd H l (.lst ys))) := by
  subst h
  exact call_list_of

/-! ### list(reversed(e)) -/
section
variable {prog : Program} {w : World} {A : Around} {E : Value → Shared → Prop} {s : Shared} {R : Result → Shared → Prop}
theorem ext_rev (hh : A.handled = none) {it l : Addr} {items : Array Value} (hit : s.heap.IsRevIter it l ((items.size : Int) - 1)) (hl : s.heap.IsList l items) (hne : l ≠ it) (hn : items.size ≤ sizeLine) (S : Addr) (res : Value) (c0 : Nat)
    (hS : s.heap.get? S = some { cls := .type "list", data := .seq #[] c0 }) (hSi : S ≠ it) (hSl : S ≠ l)
    (hR : ∀ (h' : Heap) (tk : Nat) (acc' : Array Value) (c' : Nat), (∀ b o, b ≠ S → b ≠ it → s.heap.get? b = some o → h'.get? b = some o) → h'.get? S = some { cls := .type "list", dict := none, data := .seq acc' c', slots := #[] } →
      ItemsOf (fun i v => items[items.size - 1 - i]? = some v) acc' items.size → R (.ok (.ret res)) { s with heap := h', toks := tk }) :
    wpAny (model prog w) A.in1 (Builtin.List.listExtendWith (.ref S) (.ref it) res)
      (fun fin s' => match fin with | .done f => R (.ok f) s' | .again c' => c'.quiet = true ∧ codeAny (model prog w) A c' R s') (fun e s' => R (.error e) s') s := by
  have W := (Walks.listRev (prog := prog) (w := w) (A := A.in1) hh it l hne items).toS
  have hSf : S ∉ [it, l] := by simp only [List.mem_cons, List.not_mem_nil, or_false, not_or]; exact ⟨hSi, hSl⟩
  have hT : s.TypeIs (.ref it) "list_reverseiterator" := Heap.IsRevIter.typeIs hit
  have h1 : Builtin.List.listSameRef (.ref S) (.ref it) = false := by simp [Builtin.List.listSameRef, hSi]
  unfold Builtin.List.listExtendWith
  refine wpAny_bind (wpAny_typeOf hT ?_)
  rw [if_neg (by rw [h1]; decide)]
  refine wpAny_bind (wpAny_pyIter_revIter (s := s) hit ?_)
  refine wpAny_bind (wpAny_holding ?_)
  unfold Builtin.List.listLengthHint
  refine wpAny_bind (wpAny_specialOf hT RT.nolen_lri ?_)
  show wpAny _ A.in1 (specialOf (Value.ref it) (Str.ofString "__length_hint__") >>= _) _ _ _
  refine wpAny_bind (wpAny_specialOf hT RT.hint_lri ?_)
  generalize hid : ("list_reverseiterator.__length_hint__" : String) = id0
  wp_delta
  rw [show splitId id0 = some ("list_reverseiterator", "__length_hint__") from by subst hid; decide +kernel]
  subst hid
  refine wpAny_bind (wpAny_isInstance (b := true) hT (by rw [isSubtype_type]; kernel_rfl) ?_)
  refine wpAny_pure ?_
  rw [if_neg (by decide)]
  have e0 : ((items.size : Nat) : Int) - 1 - ((0 : Nat) : Int) = (items.size : Int) - 1 := by omega
  refine wpAny_pure ⟨plainId_quiet F.plain_extend_loop _, codeAny_extend_loopS W hn _ hSf _ items.size 0 _ _ _ rfl (Nat.zero_le _) ⟨Nat.zero_le _, by rw [e0]; exact hit, hl⟩ hS (ItemsOf.nil _) fun s' acc' c' hm hS' hacc => ?_⟩
  rw [Moved.eq_with hm]
  refine hR s'.heap s'.toks acc' c' (fun b o hb hb2 e => hm.heap b o (fun hmem => ?_) e) hS' hacc
  rcases List.mem_cons.mp hmem with e' | hmem
  · exact hb e'
  · exact hb2 (List.mem_singleton.mp hmem)
theorem init_rev (hh : A.handled = none) {it l : Addr} {items : Array Value} (hit : s.heap.IsRevIter it l ((items.size : Int) - 1)) (hl : s.heap.IsList l items) (hne : l ≠ it) (hn : items.size ≤ sizeLine) (S : Addr)
    (hS : s.heap.get? S = some { cls := .type "list", data := .seq #[] }) (hSi : S ≠ it) (hSl : S ≠ l)
    (hR : ∀ (h' : Heap) (tk : Nat) (acc' : Array Value) (c' : Nat), (∀ b o, b ≠ S → b ≠ it → s.heap.get? b = some o → h'.get? b = some o) → h'.get? S = some { cls := .type "list", dict := none, data := .seq acc' c', slots := #[] } →
      ItemsOf (fun i v => items[items.size - 1 - i]? = some v) acc' items.size → R (.ok (.ret .none)) { s with heap := h', toks := tk }) :
    wpAny (model prog w) A.in1 (Builtin.«list.__init__» ⟨[.ref S, .ref it], []⟩)
      (fun fin s' => match fin with | .done f => R (.ok f) s' | .again c' => c'.quiet = true ∧ codeAny (model prog w) A c' R s') (fun e s' => R (.error e) s') s := by
  show wpAny _ _ (do let old ← Builtin.List.listItems (.ref S); Builtin.List.listUpdate (.ref S) (fun _ => #[]); letGo old.toList.reverse; Builtin.List.listExtendWith (.ref S) (.ref it) .none) _ _ s
  refine wpAny_bind ?_
  unfold Builtin.List.listItems
  refine wpAny_bind (wpAny_seqItems hS rfl (wpAny_pure ?_))
  show wpAny _ _ (updateSeq S (fun _ => #[]) >>= fun _ => letGo (#[] : Array Value).toList.reverse >>= fun _ => Builtin.List.listExtendWith (.ref S) (.ref it) .none) _ _ s
  refine wpAny_bind (wpAny_updateSeq hS rfl ?_)
  have hS₂ := Heap.get?_update_self (Obj.mapSeq (fun _ => (#[] : Array Value))) hS rfl
  have oth : ∀ b o, b ≠ S → s.heap.get? b = some o → (s.heap.update S (Obj.mapSeq (fun _ => (#[] : Array Value)))).get? b = some o :=
    fun b o hb e => (Heap.get?_update_other _ _ (Ne.symm hb)).trans e
  refine wpAny_bind (wpAny_letGo ?_)
  refine ext_rev (s := { s with heap := s.heap.update S (Obj.mapSeq (fun _ => (#[] : Array Value))) }) hh (hit.at fun o e => oth it o (Ne.symm hSi) e) ?_ hne hn S .none _ hS₂ hSi hSl fun h' tk acc' c' hk hS' hacc => ?_
  · obtain ⟨o, e, q⟩ := hl
    exact ⟨o, oth l o (Ne.symm hSl) e, q⟩
  · exact hR h' tk acc' c' (fun b o hb hb2 e => hk b o hb hb2 (oth b o hb e)) hS' hacc
theorem call_list_rev {it l : Addr} {items : Array Value} {Q : Value → Shared → Prop} (hh : A.handled = none) (hit : s.heap.IsRevIter it l ((items.size : Int) - 1)) (hl : s.heap.IsList l items) (hne : l ≠ it) (hn : items.size ≤ sizeLine)
    (hQ : ∀ (h' : Heap) (tk : Nat) (acc' : Array Value) (c' : Nat), (∀ b o, b ≠ it → s.heap.get? b = some o → h'.get? b = some o) →
      h'.get? s.heap.objs.size = some { cls := .type "list", dict := none, data := .seq acc' c', slots := #[] } → ItemsOf (fun i v => items[items.size - 1 - i]? = some v) acc' items.size → Q (.ref s.heap.objs.size) { s with heap := h', toks := tk }) :
    wpAny (model prog w) A (call (.type "list") [.ref it]) Q E s := by
  obtain ⟨oi, hoi, _⟩ := id hit
  obtain ⟨ol, hol, _⟩ := id hl
  refine callType_codes (Q₁ := fun obj s₁ => obj = .ref s.heap.objs.size ∧ s₁ = { s with heap := s.heap.push { cls := .type "list", data := .seq #[] } }) F.called_list (F.typeCall_list_1 _) F.entry_list_init
    (code_list_new _ ⟨rfl, rfl⟩) fun obj s₁ h₁ => ?_
  obtain ⟨rfl, rfl⟩ := h₁
  have hS : (s.heap.push { cls := .type "list", data := .seq #[] }).get? s.heap.objs.size = some { cls := .type "list", data := .seq #[] } := Heap.get?_push_size _ rfl
  refine ⟨⟨_, hS, rfl⟩, F.args_list_init_2 _ _, init_rev (A := A.in1) (s := { s with heap := s.heap.push { cls := .type "list", data := .seq #[] } }) hh (hit.at fun o e => Heap.get?_push_of_some _ e) (hl.push _) hne hn _ hS (Nat.ne_of_gt (Heap.lt_size hoi)) (Nat.ne_of_gt (Heap.lt_size hol)) fun h' tk acc' c' hk hS' hacc => ?_⟩
  exact ⟨rfl, hQ h' tk acc' c' (fun b o hb e => hk b o (Nat.ne_of_lt (Heap.lt_size e)) hb (Heap.get?_push_of_some _ e)) hS' hacc⟩
end
theorem pe_listRev {X : Cx} {e : Expr} {te : TE} {p p2 pos pos2 : Pos} (hc : X.calm = true) (hg : Gl X "list") (hm : X.mg "list" = none) (hg2 : Gl X "reversed") (hm2 : X.mg "reversed" = none) (he : PE X e te)
    (hs : starEach [e] X.env = (false, eval e X.env) :: starEach [] X.env := by rfl)
    (hs2 : starEach [.Call (.Name "reversed" p2) [e] [] pos2] X.env = (false, eval (.Call (.Name "reversed" p2) [e] [] pos2) X.env) :: starEach [] X.env := by rfl) :
    PE X (.Call (.Name "list" p) [.Call (.Name "reversed" p2) [e] [] pos2] [] pos) (tListRev X.K te) := by
  refine ⟨fun pins s σ H Q I h => ?_⟩
  refine Call_ (ld_blt I hg hm PyProof.Rows.boot_list (PyProof.Rows.callWith_type1 (args_cons (Call_ (ld_blt I hg2 hm2 PyProof.Rows.boot_reversed (PyProof.Rows.callWith_type1 (args_cons (thn (he.run pins s σ H _ I h) fun u s1 ⟨v, H1, I1, r1, q1⟩ => args_nil ?_) hs) hs rfl))) hs2) hs2 rfl))
  obtain ⟨a, xs, ev, hq, q⟩ := q1
  subst ev
  obtain rfl : u = Value.ref a := r1
  obtain ⟨its, rv, p', hz⟩ := I1.list hq
  refine call_reversed_list p'.isList (args_nil ?_)
  have k0 : ∀ b o, s1.heap.get? b = some o → (s1.heap.push (revObj a ((its.toArray.size : Int) - 1))).get? b = some o := fun b o e => Heap.get?_push_of_some _ e
  have I2 : Inv X pins σ H1 { s1 with heap := s1.heap.push (revObj a ((its.toArray.size : Int) - 1)) } := I1.kept (t' := s1.toks) k0
  obtain ⟨f0, f1, f2, f3, f4, f5⟩ := I1.fpOk (H' := H1) (b := s1.heap.objs.size) (Nat.le_refl _) (I1.hok.fresh (Nat.le_refl _))
  have hl := p'.isList
  obtain ⟨ol, hol, _⟩ := id hl
  have hne : a ≠ s1.heap.objs.size := Nat.ne_of_lt (Heap.lt_size hol)
  have hn : its.toArray.size ≤ sizeLine := by rw [List.size_toArray, ← rv.length]; exact hz
  refine call_list_rev (s := { s1 with heap := s1.heap.push (revObj a ((its.toArray.size : Int) - 1)) }) (I1.ok.hd hc) ⟨_, Heap.get?_push_size _ rfl, rfl, rfl⟩ (hl.push _) hne hn fun h' tk acc c' hk hS hi => ?_
  have hit0 : H1 s1.heap.objs.size = none := I1.hok.fresh (Nat.le_refl _)
  have hS0 : H1 (s1.heap.push (revObj a ((its.toArray.size : Int) - 1))).objs.size = none := I2.hok.fresh (Nat.le_refl _)
  have hSit : s1.heap.objs.size ≠ (s1.heap.push (revObj a ((its.toArray.size : Int) - 1))).objs.size := by rw [Heap.size_push]; omega
  generalize hS2 : (s1.heap.push (revObj a ((its.toArray.size : Int) - 1))).objs.size = S at *
  have hn3 : ((s1.heap.push (revObj a ((its.toArray.size : Int) - 1))).push { cls := .type "list", data := .seq #[] }).get? S = some { cls := .type "list", data := .seq #[] } := by
    rw [← hS2]
    exact Heap.get?_push_size _ rfl
  have I3 : Inv X pins σ (upd H1 S (.lst [])) { s1 with heap := (s1.heap.push (revObj a ((its.toArray.size : Int) - 1))).push { cls := .type "list", data := .seq #[] } } :=
    I2.laid (t' := s1.toks) (fun b o e => Heap.get?_push_of_some _ e) (Nat.le_of_eq hS2) (show ObjOk X.prog X.w _ _ _ (.lst []) from ⟨Nat.zero_le _, [], 0, .nil, hn3⟩)
  have hn4 := Heap.get?_update_self (fun _ => ({ cls := .type "list", dict := none, data := .seq acc c', slots := #[] } : Obj)) hn3 rfl
  have I4 : Inv X pins σ (upd (upd H1 S (.lst [])) S (.lst xs.reverse)) { s1 with heap := ((s1.heap.push (revObj a ((its.toArray.size : Int) - 1))).push { cls := .type "list", data := .seq #[] }).update S (fun _ => ({ cls := .type "list", dict := none, data := .seq acc c', slots := #[] } : Obj)) } :=
    I3.write (t' := s1.toks) (x := S) (e := S) (by rw [upd_same]; trivial) (.inl rfl) (fun b u hb e => (Heap.get?_update_other _ _ (Ne.symm hb)).trans e) ⟨_, hn4⟩
      (show ObjOk X.prog X.w _ _ _ (.lst xs.reverse) from ⟨by rw [List.length_reverse]; exact hz, acc.toList, c', RT.vals_rev rv hi, by rw [Array.toArray_toList]; exact hn4⟩)
  rw [upd_upd] at I4
  have hnS : (upd H1 S (.lst xs.reverse)) s1.heap.objs.size = none := by rw [upd_ne hSit]; exact hit0
  obtain ⟨f0, f1, f2, f3, f4, f5⟩ := I1.fpOk (H' := upd H1 S (.lst xs.reverse)) (b := s1.heap.objs.size) (Nat.le_refl _) hnS
  have I5 : Inv X pins σ (upd H1 S (.lst xs.reverse)) { s1 with heap := h', toks := tk } := Inv.turned (s := { s1 with heap := ((s1.heap.push (revObj a ((its.toArray.size : Int) - 1))).push { cls := .type "list", data := .seq #[] }).update S (fun _ => ({ cls := .type "list", dict := none, data := .seq acc c', slots := #[] } : Obj)) }) (t' := tk) (it := s1.heap.objs.size) I4 (fun b o hb e => by
    by_cases hbS : b = S
    · subst hbS
      rw [hn4] at e
      rw [hS]
      exact e
    · have e2 := (Heap.get?_update_other _ _ (Ne.symm hbS)).symm.trans e
      rcases Heap.get?_push_cases e2 with ⟨z, _⟩ | z
      · exact absurd (z.trans hS2) hbS
      · exact hk b o hb z) f0 f1 f3 f4 f5
  exact ⟨.ref S, _, I5, rfl, q _ hS0⟩

/-! ### lists that fall -/
def insD (x : Int) : List Int → List Int
  | [] => [x]
  | y :: r => if y > x then y :: insD x r else x :: y :: r
def fall : List Int → List Int
  | [] => []
  | x :: r => insD x (fall r)
abbrev Falls (l : List Int) : Prop := l.Pairwise (· ≥ ·)
theorem insD_perm (x : Int) : ∀ l : List Int, (insD x l).Perm (x :: l)
  | [] => .refl _
  | y :: r => by
    unfold insD
    split
    · exact ((insD_perm x r).cons y).trans (.swap x y r)
    · exact .refl _
theorem insD_mem {x z : Int} {l : List Int} : z ∈ insD x l ↔ z = x ∨ z ∈ l := by
  rw [(insD_perm x l).mem_iff, List.mem_cons]
theorem insD_falls {x : Int} : ∀ {l : List Int}, Falls l → Falls (insD x l)
  | [], _ => List.pairwise_singleton _ _
  | y :: r, h => by
    obtain ⟨h1, h2⟩ := List.pairwise_cons.mp h
    unfold insD
    split
    · rename_i c
      refine List.pairwise_cons.mpr ⟨fun z hz => ?_, insD_falls h2⟩
      rcases insD_mem.mp hz with rfl | hz
      · exact Int.le_of_lt c
      · exact h1 z hz
    · rename_i c
      refine List.pairwise_cons.mpr ⟨fun z hz => ?_, h⟩
      rcases List.mem_cons.mp hz with rfl | hz
      · show z ≤ x
        omega
      · have := h1 z hz
        show z ≤ x
        omega
theorem fall_perm : ∀ l : List Int, (fall l).Perm l
  | [] => .refl _
  | x :: r => (insD_perm x _).trans ((fall_perm r).cons x)
theorem fall_falls : ∀ l : List Int, Falls (fall l)
  | [] => List.Pairwise.nil
  | _ :: r => insD_falls (fall_falls r)
theorem falls_unique : ∀ {l m : List Int}, l.Perm m → Falls l → Falls m → l = m
  | [], m, h, _, _ => (List.nil_perm.mp h).symm
  | x :: l, [], h, _, _ => absurd h.length_eq (by simp)
  | x :: l, y :: m, h, hl, hm => by
    obtain ⟨a1, a2⟩ := List.pairwise_cons.mp hl
    obtain ⟨b1, b2⟩ := List.pairwise_cons.mp hm
    have e : x = y := by
      have hx : x ∈ y :: m := h.mem_iff.mp (List.mem_cons_self ..)
      have hy : y ∈ x :: l := h.mem_iff.mpr (List.mem_cons_self ..)
      rcases List.mem_cons.mp hx with e | hx
      · exact e
      · rcases List.mem_cons.mp hy with e | hy
        · exact e.symm
        · have p := b1 x hx
          have q := a1 y hy
          omega
    subst e
    rw [falls_unique ((List.perm_cons x).mp h) a2 b2]
theorem fall_eq {l m : List Int} (h : m.Perm l) (hm : Falls m) : m = fall l := falls_unique (h.trans (fall_perm l).symm) hm (fall_falls l)
theorem fall_self {l : List Int} (h : Falls l) : fall l = l := (fall_eq (.refl _) h).symm
theorem fall_length (l : List Int) : (fall l).length = l.length := (fall_perm l).length_eq
theorem perm_sum : ∀ {l m : List Int}, l.Perm m → l.sum = m.sum := fun h => by
  induction h with
  | nil => rfl
  | cons x _ ih => rw [List.sum_cons, List.sum_cons, ih]
  | swap x y l => simp only [List.sum_cons]; omega
  | trans _ _ a b => exact a.trans b
theorem fall_sum (l : List Int) : (fall l).sum = l.sum := perm_sum (fall_perm l)
/-! ### settings -/
structure Good (ns : List Int) : Prop where
  pos : ∀ x ∈ ns, 1 ≤ x
  falls : Falls ns
  ne : ns ≠ []
theorem len_le_sum : ∀ {ns : List Int}, (∀ x ∈ ns, 1 ≤ x) → (ns.length : Int) ≤ ns.sum
  | [], _ => Int.le_refl 0
  | x :: r, h => by
    have h1 := h x (List.mem_cons_self ..)
    have ih := len_le_sum (ns := r) fun z hz => h z (List.mem_cons_of_mem _ hz)
    rw [List.sum_cons, List.length_cons]
    omega
theorem mem_le_sum : ∀ {ns : List Int}, (∀ x ∈ ns, 0 ≤ x) → ∀ x ∈ ns, x ≤ ns.sum
  | y :: r, h, x, hx => by
    have h1 := h y (List.mem_cons_self ..)
    have h2 : ∀ z ∈ r, 0 ≤ z := fun z hz => h z (List.mem_cons_of_mem _ hz)
    have h3 : 0 ≤ r.sum := by
      clear hx
      induction r with
      | nil => exact Int.le_refl 0
      | cons a t ih =>
        rw [List.sum_cons]
        have q1 := h2 a (List.mem_cons_self ..)
        have q2 := ih (fun z hz => h z (by rcases List.mem_cons.mp hz with e | e <;> simp [e])) fun z hz => h2 z (List.mem_cons_of_mem _ hz)
        omega
    rw [List.sum_cons]
    rcases List.mem_cons.mp hx with rfl | hx
    · omega
    · have q := mem_le_sum h2 x hx
      omega
/-- a setting of n coins -/
def IsSet (n : Int) (ns : List Int) : Prop := Good ns ∧ ns.sum = n
theorem IsSet.len {n : Int} {ns : List Int} (h : IsSet n ns) : (ns.length : Int) ≤ n := by
  have := len_le_sum h.1.pos
  rw [h.2] at this
  exact this
theorem IsSet.le {n : Int} {ns : List Int} (h : IsSet n ns) {x : Int} (hx : x ∈ ns) : x ≤ n := by
  have := mem_le_sum (fun z hz => by have := h.1.pos z hz; omega) x hx
  rw [h.2] at this
  exact this
theorem IsSet.ne {n : Int} {ns : List Int} (h : IsSet n ns) : 0 < ns.length := List.length_pos_iff.mpr h.1.ne
/-! ### a turn -/
def down1 (ns : List Int) : List Int := (ns.filter fun z => decide (z > 1)).map (· - 1)
def turn (ns : List Int) : List Int := insD ns.length (down1 ns)
theorem down1_cons (x : Int) (r : List Int) : down1 (x :: r) = if x > 1 then (x - 1) :: down1 r else down1 r := by
  unfold down1
  rw [List.filter_cons]
  by_cases c : x > 1
  · rw [if_pos c, if_pos (decide_eq_true c)] <;> rfl
  · rw [if_neg c, if_neg (by simp only [decide_eq_true_eq]; exact c)]
theorem mem_down1 {z : Int} {ns : List Int} : z ∈ down1 ns ↔ z + 1 ∈ ns ∧ 1 ≤ z := by
  unfold down1
  simp only [List.mem_map, List.mem_filter, decide_eq_true_eq]
  constructor
  · rintro ⟨y, ⟨h1, h2⟩, rfl⟩
    exact ⟨by rw [show y - 1 + 1 = y by omega]; exact h1, by omega⟩
  · rintro ⟨h1, h2⟩
    exact ⟨z + 1, ⟨h1, by omega⟩, by omega⟩
theorem down1_falls {ns : List Int} (h : Falls ns) : Falls (down1 ns) := by
  induction ns with
  | nil => exact List.Pairwise.nil
  | cons x r ih =>
    obtain ⟨h1, h2⟩ := List.pairwise_cons.mp h
    rw [down1_cons]
    split
    · refine List.pairwise_cons.mpr ⟨fun z hz => ?_, ih h2⟩
      have := h1 _ (mem_down1.mp hz).1
      show z ≤ x - 1
      omega
    · exact ih h2
theorem down1_sum {ns : List Int} (h : ∀ x ∈ ns, 1 ≤ x) : (down1 ns).sum + ns.length = ns.sum := by
  induction ns with
  | nil => rfl
  | cons x r ih =>
    have h1 := h x (List.mem_cons_self ..)
    have ih := ih fun z hz => h z (List.mem_cons_of_mem _ hz)
    rw [down1_cons]
    split
    · rw [List.sum_cons, List.sum_cons, List.length_cons]; omega
    · rw [List.sum_cons, List.length_cons]; omega
theorem down1_length (ns : List Int) : (down1 ns).length ≤ ns.length := by
  unfold down1
  rw [List.length_map]
  exact List.length_filter_le _ _
theorem turn_perm (ns : List Int) : (turn ns).Perm (down1 ns ++ [(ns.length : Int)]) := (insD_perm _ _).trans (List.perm_append_comm (l₁ := [(ns.length : Int)]) (l₂ := down1 ns))
theorem turn_eq {ns : List Int} (h : Falls ns) : turn ns = fall (down1 ns ++ [(ns.length : Int)]) := fall_eq (turn_perm ns) (insD_falls (down1_falls h))
theorem turn_set {n : Int} {ns : List Int} (h : IsSet n ns) : IsSet n (turn ns) := by
  refine ⟨⟨fun x hx => ?_, insD_falls (down1_falls h.1.falls), fun e => ?_⟩, ?_⟩
  · rcases insD_mem.mp hx with rfl | hx
    · have := h.ne
      omega
    · exact (mem_down1.mp hx).2
  · have : (turn ns).length = (down1 ns).length + 1 := (insD_perm _ _).length_eq
    rw [e] at this
    simp at this
  · rw [show (turn ns).sum = _ from perm_sum (insD_perm _ _), List.sum_cons]
    have := down1_sum h.1.pos
    rw [h.2] at this
    omega
theorem turn_length (ns : List Int) : (turn ns).length ≤ ns.length + 1 := by
  have : (turn ns).length = (down1 ns).length + 1 := (insD_perm _ _).length_eq
  have := down1_length ns
  omega

/-! ### the stair -/
def stairUp : Nat → Nat → Nat → Nat
  | 0, s, _ => s
  | f + 1, s, n => if s * (s + 1) < 2 * n then stairUp f (s + 1) n else s
def stair (n : Nat) : Nat := stairUp n 1 n
theorem sq_mono {a b : Nat} (h : a ≤ b) : a * (a + 1) ≤ b * (b + 1) := Nat.mul_le_mul h (Nat.succ_le_succ h)
theorem le_sq (a : Nat) : a ≤ a * (a + 1) := Nat.le_mul_of_pos_right a (Nat.succ_pos a)
theorem stairUp_spec : ∀ (f s n : Nat), n ≤ f + s → 1 ≤ s → (s - 1) * s < 2 * n → 1 ≤ stairUp f s n ∧ (stairUp f s n - 1) * stairUp f s n < 2 * n ∧ 2 * n ≤ stairUp f s n * (stairUp f s n + 1)
  | 0, s, n, h, h1, h2 => by
    refine ⟨h1, h2, ?_⟩
    show 2 * n ≤ s * (s + 1)
    have : s * 2 ≤ s * (s + 1) := Nat.mul_le_mul_left s (by omega)
    omega
  | f + 1, s, n, h, h1, h2 => by
    unfold stairUp
    split
    · rename_i c
      exact stairUp_spec f (s + 1) n (by omega) (by omega) (by rw [Nat.add_sub_cancel]; exact c)
    · rename_i c
      exact ⟨h1, h2, by omega⟩
theorem stair_spec {n : Nat} (h : 1 ≤ n) : 1 ≤ stair n ∧ (stair n - 1) * stair n < 2 * n ∧ 2 * n ≤ stair n * (stair n + 1) := stairUp_spec n 1 n (by omega) (Nat.le_refl _) (by omega)
theorem stair_uniq {n s : Nat} (h : 1 ≤ n) (h1 : 1 ≤ s) (h2 : (s - 1) * s < 2 * n) (h3 : 2 * n ≤ s * (s + 1)) : s = stair n := by
  obtain ⟨a, b, c⟩ := stair_spec h
  generalize stair n = t at *
  rcases Nat.lt_trichotomy s t with l | e | l
  · have := sq_mono (show s ≤ t - 1 by omega)
    rw [show t - 1 + 1 = t by omega] at this
    omega
  · exact e
  · have := sq_mono (show t ≤ s - 1 by omega)
    rw [show s - 1 + 1 = s by omega] at this
    omega
theorem stair_le {n : Nat} (h : 1 ≤ n) {b : Nat} (hb : 2 * n ≤ b * (b + 1)) (h1 : 1 ≤ b) : stair n ≤ b := by
  obtain ⟨_, b1, _⟩ := stair_spec h
  rcases Nat.lt_or_ge b (stair n) with l | l
  · have := sq_mono (show b ≤ stair n - 1 by omega)
    rw [show stair n - 1 + 1 = stair n by omega] at this
    omega
  · exact l
/-- the ones of n coins' marks -/
def restOf (n : Nat) : Nat := n - stair n * (stair n - 1) / 2
theorem half_sq (s : Nat) : 2 * (s * (s + 1) / 2) = s * (s + 1) := by
  have h : s * (s + 1) % 2 = 0 := by
    rcases Nat.mod_two_eq_zero_or_one s with e | e
    · rw [Nat.mul_mod, e, Nat.zero_mul]
    · rw [Nat.mul_mod, Nat.add_mod, e]
  omega
theorem half_sq' {s : Nat} (h : 1 ≤ s) : 2 * (s * (s - 1) / 2) = s * (s - 1) := by
  have := half_sq (s - 1)
  rw [show s - 1 + 1 = s by omega, Nat.mul_comm (s - 1) s] at this
  exact this
theorem rest_spec {n : Nat} (h : 1 ≤ n) : 1 ≤ restOf n ∧ restOf n ≤ stair n ∧ n = stair n * (stair n - 1) / 2 + restOf n := by
  obtain ⟨a, b, c⟩ := stair_spec h
  have e := half_sq' a
  unfold restOf
  have d : stair n * (stair n + 1) = stair n * (stair n - 1) + 2 * stair n := by
    rw [← Nat.mul_comm (stair n) 2, ← Nat.mul_add]
    congr 1
    omega
  rw [Nat.mul_comm] at b
  omega
/-! ### marks -/
def mk : List Int → List Int
  | [] => []
  | m :: r => ((r.length : Int) + m) :: mk r
def ofMarks (ms : List Int) : List Int := (mk ms).filter fun z => decide (z > 0)
theorem mk_length : ∀ ms : List Int, (mk ms).length = ms.length
  | [] => rfl
  | _ :: r => congrArg (· + 1) (mk_length r)
theorem mk_get : ∀ {ms : List Int} {i : Nat} {m : Int}, ms[i]? = some m → (mk ms)[i]? = some ((ms.length : Int) - 1 - i + m)
  | [], _, _, h => by simp at h
  | a :: r, 0, m, h => by
    have e : a = m := Option.some.inj h
    subst e
    show some ((r.length : Int) + a) = some (((r.length + 1 : Nat) : Int) - 1 - ((0 : Nat) : Int) + a)
    congr 1
    omega
  | a :: r, i + 1, m, h => by
    have ih := mk_get (ms := r) (i := i) (m := m) h
    show (mk r)[i]? = some (((r.length + 1 : Nat) : Int) - 1 - ((i + 1 : Nat) : Int) + m)
    rw [ih]
    congr 1
    omega
/-- noughts and ones -/
def Bits (ms : List Int) : Prop := ∀ m ∈ ms, m = 0 ∨ m = 1
theorem mk_bits : ∀ {ms : List Int}, Bits ms → (∀ z ∈ mk ms, 0 ≤ z ∧ z ≤ ms.length) ∧ Falls (mk ms)
  | [], _ => ⟨fun _ h => (by cases h), List.Pairwise.nil⟩
  | m :: r, h => by
    have hm := h m (List.mem_cons_self ..)
    obtain ⟨h1, h2⟩ := mk_bits (ms := r) fun z hz => h z (List.mem_cons_of_mem _ hz)
    refine ⟨fun z hz => ?_, List.pairwise_cons.mpr ⟨fun z hz => ?_, h2⟩⟩
    · rw [List.length_cons]
      rcases List.mem_cons.mp hz with rfl | hz
      · omega
      · have := h1 z hz
        omega
    · have := h1 z hz
      show z ≤ (r.length : Int) + m
      omega
theorem mk_sum : ∀ ms : List Int, (mk ms).sum = ((ms.length * (ms.length - 1) / 2 : Nat) : Int) + ms.sum
  | [] => rfl
  | m :: r => by
    have ih := mk_sum r
    show ((r.length : Int) + m) + (mk r).sum = _
    rw [ih, List.sum_cons, List.length_cons]
    have e1 := half_sq r.length
    have e2 : 2 * (r.length * (r.length - 1) / 2) = r.length * (r.length - 1) := by
      rcases Nat.eq_zero_or_pos r.length with e | e
      · rw [e]
      · exact half_sq' e
    rw [Nat.add_sub_cancel, Nat.mul_comm (r.length + 1) r.length]
    have e3 : r.length * (r.length + 1) = r.length * (r.length - 1) + 2 * r.length := by
      rcases Nat.eq_zero_or_pos r.length with e | e
      · rw [e]
      · rw [← Nat.mul_comm r.length 2, ← Nat.mul_add]
        congr 1
        omega
    omega
theorem filter_pos_sum : ∀ {l : List Int}, (∀ z ∈ l, 0 ≤ z) → (l.filter fun z => decide (z > 0)).sum = l.sum
  | [], _ => rfl
  | x :: r, h => by
    have h1 := h x (List.mem_cons_self ..)
    have ih := filter_pos_sum (l := r) fun z hz => h z (List.mem_cons_of_mem _ hz)
    rw [List.filter_cons]
    by_cases c : x > 0
    · rw [if_pos (decide_eq_true c), List.sum_cons, List.sum_cons, ih]
    · rw [if_neg (by simp only [decide_eq_true_eq]; exact c), List.sum_cons, ih]
      omega
theorem ofMarks_set {n : Nat} (hn : 1 ≤ n) {ms : List Int} (hb : Bits ms) (hl : ms.length = stair n) (hs : ms.sum = (restOf n : Int)) : IsSet n (ofMarks ms) := by
  obtain ⟨h1, h2⟩ := mk_bits hb
  have hsum : (ofMarks ms).sum = (n : Int) := by
    unfold ofMarks
    rw [filter_pos_sum fun z hz => (h1 z hz).1, mk_sum, hs, hl]
    have := (rest_spec hn).2.2
    omega
  refine ⟨⟨fun x hx => ?_, ?_, fun e => ?_⟩, hsum⟩
  · have := of_decide_eq_true (List.mem_filter.mp hx).2
    omega
  · exact List.Pairwise.filter _ h2
  · rw [e] at hsum
    have : (0 : Int) = n := hsum
    omega
/-! ### elders: what the pile at a place was not yet -/
def elderAt (ns : List Int) (j : Nat) (p : Int) : List Int := ((ns.take j ++ ns.drop (j + 1)).map (· + 1)) ++ List.replicate (p - ((ns.length : Int) - 1)).toNat 1
theorem sum_replicate (n : Nat) : (List.replicate n (1 : Int)).sum = n := by
  induction n with
  | zero => rfl
  | succ n ih => rw [List.replicate_succ, List.sum_cons, ih]; omega
theorem sum_map_add1 : ∀ l : List Int, (l.map (· + 1)).sum = l.sum + l.length
  | [] => rfl
  | x :: r => by
    have ih := sum_map_add1 r
    rw [List.map_cons, List.sum_cons, List.sum_cons, ih, List.length_cons]
    omega
theorem take_drop_sum : ∀ {ns : List Int} {j : Nat} {p : Int}, ns[j]? = some p → (ns.take j ++ ns.drop (j + 1)).sum + p = ns.sum ∧ (ns.take j ++ ns.drop (j + 1)).length + 1 = ns.length
  | [], _, _, h => by simp at h
  | a :: r, 0, p, h => by
    have e : a = p := Option.some.inj h
    subst e
    refine ⟨?_, rfl⟩
    show r.sum + a = (a :: r).sum
    rw [List.sum_cons]
    omega
  | a :: r, j + 1, p, h => by
    obtain ⟨h1, h2⟩ := take_drop_sum (ns := r) (j := j) (p := p) h
    refine ⟨?_, ?_⟩
    · show (a :: (r.take j ++ r.drop (j + 1))).sum + p = (a :: r).sum
      rw [List.sum_cons, List.sum_cons]
      omega
    · show (r.take j ++ r.drop (j + 1)).length + 1 + 1 = r.length + 1
      omega
theorem take_drop_sub (ns : List Int) (j : Nat) : (ns.take j ++ ns.drop (j + 1)).Sublist ns := by
  have h := (List.Sublist.refl (ns.take j)).append (List.drop_sublist 1 (ns.drop j))
  rw [List.take_append_drop, List.drop_drop] at h
  exact h
theorem elder_set {n : Int} {ns : List Int} (h : IsSet n ns) {j : Nat} {p : Int} (hp : ns[j]? = some p) (hb : p ≥ (ns.length : Int) - 1) : IsSet n (elderAt ns j p) := by
  obtain ⟨s1, s2⟩ := take_drop_sum hp
  have sub := take_drop_sub ns j
  have h1 := h.1.pos p (List.mem_of_getElem? hp)
  refine ⟨⟨fun x hx => ?_, ?_, fun e => ?_⟩, ?_⟩
  · rcases List.mem_append.mp hx with hx | hx
    · obtain ⟨y, hy, rfl⟩ := List.mem_map.mp hx
      have := h.1.pos y (sub.subset hy)
      omega
    · rw [List.eq_of_mem_replicate hx]
      exact Int.le_refl 1
  · refine List.pairwise_append.mpr ⟨?_, ?_, fun a ha b hb => ?_⟩
    · rw [List.pairwise_map]
      exact (h.1.falls.sublist sub).imp fun h => by omega
    · exact List.pairwise_replicate.mpr (.inr (Int.le_refl 1))
    · obtain ⟨y, hy, rfl⟩ := List.mem_map.mp ha
      have := h.1.pos y (sub.subset hy)
      rw [List.eq_of_mem_replicate hb]
      omega
  · have := congrArg List.length e
    unfold elderAt at this
    rw [List.length_append, List.length_map, List.length_replicate, List.length_nil] at this
    omega
  · unfold elderAt
    rw [List.sum_append, sum_map_add1, sum_replicate]
    have := h.2
    omega

/-! ### lists of ints compared -/
theorem dpAll_ints {K : PySem.W.Frag} {H : Hp} : ∀ ns : List Int, DpAll K H (ns.map V.int) (ns.map PyData.int)
  | [] => .nil
  | n :: r => .cons (.int n) (dpAll_ints r)
theorem dp_ints {K : PySem.W.Frag} {H : Hp} {a : Addr} {ns : List Int} (h : SqL K H a (ns.map V.int)) : Dp K H (.ref a) (.list (ns.map PyData.int)) := .lst h (dpAll_ints ns)
theorem sh_all_ints : ∀ ns : List Int, PyData.canLayAll0 (ns.map PyData.int) = true ∧ PyData.depthAll (ns.map PyData.int) = 0
  | [] => ⟨rfl, rfl⟩
  | n :: r => by
    obtain ⟨h1, h2⟩ := sh_all_ints r
    refine ⟨?_, ?_⟩
    · rw [List.map_cons, PyData.canLayAll0, h1] <;> rfl
    · rw [List.map_cons, PyData.depthAll, h2] <;> rfl
theorem sh_ints (ns : List Int) : SeqAt.shaped (.list (ns.map PyData.int)) = true := by
  obtain ⟨h1, h2⟩ := sh_all_ints ns
  unfold SeqAt.shaped
  rw [PyData.canLay0, PyData.depth, h1, h2] <;> rfl
theorem eqv_all_ints : ∀ ns ms : List Int, PyData.eqvAll (ns.map PyData.int) (ms.map PyData.int) = decide (ns = ms)
  | [], [] => by rw [List.map_nil, PyData.eqvAll] <;> rfl
  | [], m :: ms => by rw [List.map_nil, List.map_cons, PyData.eqvAll] <;> simp
  | n :: ns, [] => by rw [List.map_nil, List.map_cons, PyData.eqvAll] <;> simp
  | n :: ns, m :: ms => by
    rw [List.map_cons, List.map_cons, PyData.eqvAll, eqv_all_ints ns ms, PyData.eqv]
    by_cases e : n = m
    · subst e
      simp
    · simp [e]
theorem eqv_ints (ns ms : List Int) : PyData.eqv (.list (ns.map PyData.int)) (.list (ms.map PyData.int)) = decide (ns = ms) := by
  rw [PyData.eqv]
  exact eqv_all_ints ns ms
/-! ### a list that is looked at place by place -/
def Adj (ns : List Int) (i : Nat) : Prop := ∀ j, j < i → ∀ x, ns[j]? = some x → 1 ≤ x ∧ ∀ y, 0 < j → ns[j - 1]? = some y → x ≤ y
theorem falls_of_adj : ∀ {ns : List Int}, (∀ j x y, ns[j + 1]? = some x → ns[j]? = some y → x ≤ y) → Falls ns
  | [], _ => List.Pairwise.nil
  | [_], _ => List.pairwise_singleton _ _
  | a :: b :: r, h => by
    have ih : Falls (b :: r) := falls_of_adj fun j x y hx hy => h (j + 1) x y hx hy
    have hab : b ≤ a := h 0 b a rfl rfl
    refine List.pairwise_cons.mpr ⟨fun z hz => ?_, ih⟩
    rcases List.mem_cons.mp hz with rfl | hz
    · exact hab
    · have := (List.pairwise_cons.mp ih).1 z hz
      show z ≤ a
      omega
theorem good_adj {ns : List Int} : Good ns ↔ ns ≠ [] ∧ Adj ns ns.length := by
  constructor
  · intro h
    refine ⟨h.ne, fun j hj x hx => ⟨h.pos x (List.mem_of_getElem? hx), fun y h0 hy => ?_⟩⟩
    obtain ⟨i, rfl⟩ : ∃ i, j = i + 1 := ⟨j - 1, by omega⟩
    obtain ⟨a1, a2⟩ := List.getElem?_eq_some_iff.mp hx
    obtain ⟨b1, b2⟩ := List.getElem?_eq_some_iff.mp hy
    have := List.pairwise_iff_getElem.mp h.falls i (i + 1) (by omega) a1 (by omega)
    rw [← a2, ← b2]
    exact this
  · rintro ⟨h0, h⟩
    refine ⟨fun x hx => ?_, falls_of_adj fun j x y hx hy => ?_, h0⟩
    · obtain ⟨j, hj⟩ := List.getElem?_of_mem hx
      exact (h j (List.getElem?_eq_some_iff.mp hj).1 x hj).1
    · exact (h (j + 1) (List.getElem?_eq_some_iff.mp hx).1 x hx).2 y (by omega) hy
theorem insD_at {x : Int} : ∀ {l : List Int} {j : Nat}, j ≤ l.length → (∀ i y, i < j → l[i]? = some y → y > x) → (∀ y, l[j]? = some y → ¬ y > x) → insD x l = l.take j ++ [x] ++ l.drop j
  | [], 0, _, _, _ => rfl
  | [], j + 1, h, _, _ => by simp at h
  | a :: r, 0, _, _, h => by
    unfold insD
    rw [if_neg (h a rfl)] <;> rfl
  | a :: r, j + 1, hj, h1, h2 => by
    unfold insD
    rw [if_pos (h1 0 a (by omega) rfl), insD_at (l := r) (j := j) (by simpa using hj) (fun i y hi hy => h1 (i + 1) y (by omega) hy) h2] <;> rfl
theorem op_eqDK {X : Cx} (K : PySem.W.Frag) (hu : X.A.units + 64 < cLine) (h : X.K = K := by rfl) : OpR X (compareOp .Eq) (rEqD K) := by
  subst h
  exact op_eqD hu

/-! ### settings as texts -/
abbrev nstr (z : Int) : Str := Str.ofString (toString z)
def blank : Str := " "
def note (ns : List Int) : Str := Txt.join blank (ns.map nstr)
theorem join_snoc (sep : Str) : ∀ (l : List Str) (x : Str), l ≠ [] → Str.join sep (l ++ [x]) = Str.join sep l ++ sep ++ x
  | [], _, h => absurd rfl h
  | [y], x, _ => rfl
  | y :: z :: r, x, _ => by
    have ih := join_snoc sep (z :: r) x (by simp)
    show y ++ sep ++ Str.join sep ((z :: r) ++ [x]) = (y ++ sep ++ Str.join sep (z :: r)) ++ sep ++ x
    rw [ih]
    have assoc : ∀ a b c : Str, a ++ b ++ c = a ++ (b ++ c) := fun a b c => by
      show (⟨(a.cps ++ b.cps) ++ c.cps⟩ : Str) = ⟨a.cps ++ (b.cps ++ c.cps)⟩
      rw [Array.append_assoc]
    simp only [assoc]
theorem note_snoc {ns : List Int} (h : ns ≠ []) (x : Int) : note (ns ++ [x]) = note ns ++ blank ++ nstr x := by
  unfold note
  rw [TL.join_eq, TL.join_eq, List.map_append]
  exact join_snoc blank _ _ (by simpa using h)
theorem note_one (x : Int) : note [x] = nstr x := rfl
def figs : Str := "0123456789"
/-- a word of a pile -/
def wordOk (n : Nat) : Bool := decide (1 ≤ (nstr n).length) && (decide ((nstr n).length ≤ 3) && (!decide ((nstr n).cps.toList[0]? = some 48) && ((nstr n).cps.toList.all (fun c => decide (c ∈ figs.cps.toList) && decide (c ≠ 32)) && decide (PySem.intText? (nstr n) = some (n : Int)))))
theorem words_ok : ∀ n : Fin 101, n.1 = 0 ∨ wordOk n.1 = true := by decide +kernel
structure Word (n : Nat) : Prop where
  l1 : 1 ≤ (nstr n).length
  l3 : (nstr n).length ≤ 3
  nz : ¬ (nstr n).cps.toList[0]? = some 48
  fig : ∀ c ∈ (nstr n).cps.toList, c ∈ figs.cps.toList ∧ c ≠ 32
  val : PySem.intText? (nstr n) = some (n : Int)
theorem word_of {n : Nat} (h1 : 1 ≤ n) (h2 : n ≤ 100) : Word n := by
  have h := words_ok ⟨n, by omega⟩
  rcases h with h | h
  · have h : n = 0 := h
    omega
  · obtain ⟨a1, h⟩ := Bool.and_eq_true_iff.mp h
    obtain ⟨a2, h⟩ := Bool.and_eq_true_iff.mp h
    obtain ⟨a3, h⟩ := Bool.and_eq_true_iff.mp h
    obtain ⟨a4, a5⟩ := Bool.and_eq_true_iff.mp h
    refine ⟨of_decide_eq_true a1, of_decide_eq_true a2, fun e => ?_, fun c hc => ?_, of_decide_eq_true a5⟩
    · rw [decide_eq_true e] at a3
      cases a3
    · obtain ⟨b1, b2⟩ := Bool.and_eq_true_iff.mp (List.all_eq_true.mp a4 c hc)
      exact ⟨of_decide_eq_true b1, of_decide_eq_true b2⟩
theorem Good.nat {ns : List Int} (hg : Good ns) (hs : ns.sum ≤ 100) : ∀ x ∈ ns, ∃ n : Nat, x = n ∧ 1 ≤ n ∧ n ≤ 100 := fun x hx => by
  have h1 := hg.pos x hx
  have h2 := mem_le_sum (fun z hz => by have := hg.pos z hz; omega) x hx
  exact ⟨x.toNat, by omega, by omega, by omega⟩
theorem note_split {ns : List Int} (hg : Good ns) (hs : ns.sum ≤ 100) : Txt.split (note ns) blank = ns.map nstr := by
  refine TL.split_join (s := 32) (S := []) rfl (by decide +kernel) (fun e => hg.ne (List.map_eq_nil_iff.mp e)) fun p hp hm => ?_
  obtain ⟨x, hx, rfl⟩ := List.mem_map.mp hp
  obtain ⟨n, rfl, h1, h2⟩ := hg.nat hs x hx
  exact ((word_of h1 h2).fig 32 hm).2 rfl
theorem len_app (a b : Str) : (a ++ b).length = a.length + b.length := by
  show (a.cps ++ b.cps).size = a.cps.size + b.cps.size
  rw [Array.size_append]

/-! ### own exceptions: facts of the classes -/
def eNames : List Str := ["NoPiles", "NotRound", "NoMarks", "NoNumber", "NoNote"]
def excOneB (K : PySem.W.Frag) (x : Str) : Bool :=
  ((He.Fa.glo x).ok K && (He.Fa.exc x).ok K) &&
  (decide (PySem.W.findIn K (.ref (He.ga K x)) "__getattribute__" = some (some (.builtin "BaseException.__getattribute__"))) && (decide (PySem.W.findIn K (.ref (He.ga K x)) "__getattr__" = some none) && (PySem.W.hasDictIn K (He.ga K x) &&
  (decide (PySem.W.findIn K (.ref (He.ga K x)) "__class__" = some (some (.builtin "object.__class__"))) && (decide (PySem.W.specialIn K (.builtin "object.__class__") "__get__" = some (some (.builtin "getset_descriptor.__get__"))) &&
  (decide (PySem.W.takesIn K (.builtin "object.__class__") = some true) && decide (PySem.W.mroIn K (He.ga K x) (.type "object") = some true))))))) &&
  (decide (PySem.W.exmOne K (.ref (He.ga K x)) (.ref (He.ga K "PileError")) = some true) && (decide (PySem.W.kitOne K (.ref (He.ga K x)) (.type "ValueError") = some true) &&
  eNames.all fun y => decide (PySem.W.kitOne K (.ref (He.ga K x)) (.ref (He.ga K y)) = some (decide (x = y)))))
def excB (K : PySem.W.Frag) : Bool := (He.Fa.glo "PileError").ok K && eNames.all fun x => excOneB K x
structure XCls (K : PySem.W.Frag) (mg : Str → Option Value) (x : Str) : Prop where
  g : mg x = some (.ref (He.ga K x))
  inn : PySem.W.excIn K (He.ga K x) He.veBase "ValueError.__new__" = true
  kp : PySem.W.keepIn K (.ref (He.ga K x)) = true
  bs : PySem.W.subIn K (.ref (He.ga K x)) (.type "BaseException") = some true
  ty : PySem.W.typeIn K (.ref (He.ga K x)) = some (.type "type")
  ec : ExcC K (He.ga K x)
  pe : PySem.W.exmOne K (.ref (He.ga K x)) (.ref (He.ga K "PileError")) = some true
  ve : PySem.W.kitOne K (.ref (He.ga K x)) (.type "ValueError") = some true
  is : ∀ y ∈ eNames, PySem.W.kitOne K (.ref (He.ga K x)) (.ref (He.ga K y)) = some (decide (x = y))
theorem xcls_of {K : PySem.W.Frag} {h : Heap} {mg : Str → Option Value} (X : K.In h) (G : h.Ns mainGlobals mg) {x : Str} (c : excOneB K x = true) : XCls K mg x := by
  obtain ⟨c0, c3⟩ := He.ba c
  obtain ⟨c1, c2⟩ := He.ba c0
  obtain ⟨a1, a2⟩ := He.ba c1
  obtain ⟨e1, e2, e3, e4⟩ := He.exc_ok a2
  obtain ⟨b1, c2⟩ := He.ba c2
  obtain ⟨b2, c2⟩ := He.ba c2
  obtain ⟨b3, c2⟩ := He.ba c2
  obtain ⟨b4, c2⟩ := He.ba c2
  obtain ⟨b5, c2⟩ := He.ba c2
  obtain ⟨b6, b7⟩ := He.ba c2
  obtain ⟨d1, c3⟩ := He.ba c3
  obtain ⟨d2, d3⟩ := He.ba c3
  exact ⟨He.glo_ok X G a1, e1, e2, e3, e4, ⟨of_decide_eq_true b1, of_decide_eq_true b2, e3, b3, of_decide_eq_true b4, of_decide_eq_true b5, of_decide_eq_true b6, of_decide_eq_true b7⟩, of_decide_eq_true d1, of_decide_eq_true d2,
    fun y hy => of_decide_eq_true (List.all_eq_true.mp d3 y hy)⟩
theorem pe_cls {X : Cx} {K : PySem.W.Frag} {mg : Str → Option Value} {x : Str} {pos : Pos} (T : XCls K mg x) (e : X.mg = mg := by rfl) (h : Gl X x := by rfl) (hd : (x == ("__debug__" : Str)) = false := by decide) : PE X (.Name x pos) (tC (.ref (He.ga K x))) := by
  subst e
  exact pe_glob h T.g rfl hd
/-! the Hook: He's, with one Bool more -/
abbrev AlE : Type := He.AlD × Bool
def obsXE (n : Nat) (fa : List He.Fa) (fn : List He.DefD) (ex : PySem.W.Frag → Bool) (g : Addr → Option Obj) : AlE := (He.obsDG n fa fn g, ex (He.frG g (He.asD g n)))
def hookXE (n : Nat) (fa : List He.Fa) (fn : List He.DefD) (ex : PySem.W.Frag → Bool) : PySem.W.Hook where
  α := AlE
  obs := fun s => obsXE n fa fn ex s.heap.get?
  val := fun _ => (He.valD fn, true)
  says := fun _ h => ∃ K : PySem.W.Frag, K.In h ∧ He.SaysD fa fn K ∧ ex K = true
  of := fun _ _ e => ⟨_, He.frG_in, congrArg (fun z : AlE => z.1) e, congrArg (fun z : AlE => z.2) e⟩
  keeps := fun _ _ _ ⟨K, hK, c⟩ k => ⟨K, PySem.W.Frag.In.keeps hK k, c⟩
theorem obsXE_eq {n : Nat} {fa : List He.Fa} {fn : List He.DefD} {ex : PySem.W.Frag → Bool} {g : Addr → Option Obj} {s : Shared} (h : ∀ a, g a = s.heap.get? a) : obsXE n fa fn ex g = (hookXE n fa fn ex).obs s := by
  have e : g = s.heap.get? := funext h
  rw [e] <;> rfl
/-! ### a def that may raise, its calls -/
theorem takes_no {X : Cx} : L2N.Takes X (fun _ _ _ _ => False) := fun _ _ ⟨_, _, _, _, _, _, _, _, _, _, _, _, _, _, _, _, w⟩ => w.elim
theorem cal_mkX {P : Program} {w : World} {K : PySem.W.Frag} {mg : Str → Option Value} {base : Heap} {x : Str} {st : Stmt} {N ps : List Str} {k : Nat} {sp : Sp} (D : DefAt K mg x st) (S : FnScope N ps (defScope st)) (len : ∀ vs H Q E, sp vs H Q E → vs.length = ps.length)
    (hb : ∀ (kV doc pm : Value) (an : Option Addr) (cdv ct : Value) (us : List Value), us.length = ps.length → bindArgs (PySem.W.fnOf x x (defArgs st) (defBody st) (defScope st) .none kV doc pm an cdv ct) ⟨us, []⟩ = pure (ps.zip us))
    (hbody : ∀ (f : Addr) (cdv : Value) (A : Around) (outer : List Env) (s : Shared) (H : Hp) (vs : List V) (Q : VK) (E : XK), Room k (A.deeper (envOfC x (defScope st) s.heap.objs.size f cdv)) → sp vs H Q E →
      L2N.Takes (cxOf (L2N.CX P w) P w K mg base N x (defScope st) f cdv A outer s H E) (fun cls d _ H => E cls d H) →
      ∃ t, PSs (cxOf (L2N.CX P w) P w K mg base N x (defScope st) f cdv A outer s H E) (defBody st) t ∧ t { nx := fun _ H' => Q .non H', rt := Q } (start N vs) H) : Cal P w K mg base (L2N.CX P w) (k + 1) x ps sp := by
  obtain ⟨fd, F, g⟩ := D
  refine ⟨⟨_, fd, F.ok S len (fun cdv A outer s H vs Q E hr h => ?_), g, F.kp, F.bindsN hb⟩⟩
  exact hbody _ cdv A outer s H vs Q E hr h (L2N.takes_of rfl rfl rfl rfl)
theorem pe_callX {X : Cx} {W : WX} {k : Nat} {x : Str} {ps : List Str} {sp : Sp} {e : Expr} {es : List Expr} {t : TA} {p pos : Pos} (C : Cal X.prog X.w X.K X.mg X.base (L2N.CX X.prog X.w) k x ps sp) (tk : L2N.Takes X W) (hr : Room k X.A) (ha : PA X (e :: es) t) (hg : Gl X x := by rfl)
    (hdb : (x == ("__debug__" : Str)) = false := by decide) (he : starEach (e :: es) X.env = (false, eval e X.env) :: starEach es X.env := by rfl) (hpl : (backTo pos (starEach es X.env)).any (·.1) = false := by rfl) :
    PE X (.Call (.Name x p) (e :: es) [] pos) (tCallS sp (WE W) t) := by
  obtain ⟨f, fd, F, hm, hk, hb⟩ := C.ex
  exact pe_callS F hr hg hm hk hb (fun σ => L2N.passAt tk σ) ha hdb he hpl
theorem pmk_x {X : Cx} {x m : Str} {j : Nat} {p p2 pos : Pos} (T : XCls X.K X.mg x) (hg : Gl X x) (hdb : (x == ("__debug__" : Str)) = false := by decide) : L2N.PMk X (.Call (.Name x p) [.Constant (.str m) j p2] [] pos) (fun _ H Q => Q (.ref (He.ga X.K x)) none H) :=
  L2N.pmk_own PySem.F.excBase_ValueError T.inn T.g T.kp (raises_own T.bs T.ty) hg hdb
/-! ### a def called in the suite of an except clause: it may know the exception p -/
structure FnP (P : Program) (w : World) (K : PySem.W.Frag) (mg : Str → Option Value) (base : Heap) (CX : CXT) (k : Nat) (f : Addr) (fd : FuncData) (ps : List Str) (sp : Sp) (p : Addr × Obj) : Prop where
  len : ∀ vs H Q E, sp vs H Q E → vs.length = ps.length
  run : ∀ (A : Around) (outer : List Env) (s : Shared) (H : Hp) (args : Args) (us : List Value) (vs : List V) (Q : VK) (E : XK), L2H.RoomH k A → L2H.Hot1 A p → L2H.PinOk outer H s p → Env0 P w K mg base A outer s H → BindsTo s fd args (ps.zip us) → Vals vs us → sp vs H Q E →
    codeAny (model P w) A (.call (.ref f) args) (CR CX outer P w H s Q E) s
structure CalP (P : Program) (w : World) (K : PySem.W.Frag) (mg : Str → Option Value) (base : Heap) (CX : CXT) (k : Nat) (x : Str) (ps : List Str) (sp : Sp) (p : Addr × Obj) : Prop where
  ex : ∃ (f : Addr) (fd : FuncData), FnP P w K mg base CX k f fd ps sp p ∧ mg x = some (.ref f) ∧ PySem.W.keepIn K (.ref f) = true ∧ Binds K fd ps []
theorem cal_mkP {CX : CXT} {P : Program} {w : World} {K : PySem.W.Frag} {mg : Str → Option Value} {base : Heap} {x : Str} {st : Stmt} {N ps : List Str} {k : Nat} {sp : Sp} {p : Addr × Obj} (D : DefAt K mg x st) (S : FnScope N ps (defScope st)) (len : ∀ vs H Q E, sp vs H Q E → vs.length = ps.length)
    (hb : ∀ (kV doc pm : Value) (an : Option Addr) (cdv ct : Value) (us : List Value), us.length = ps.length → bindArgs (PySem.W.fnOf x x (defArgs st) (defBody st) (defScope st) .none kV doc pm an cdv ct) ⟨us, []⟩ = pure (ps.zip us))
    (hbody : ∀ (f : Addr) (cdv : Value) (A : Around) (outer : List Env) (s : Shared) (H : Hp) (vs : List V) (Q : VK) (E : XK), L2H.RoomH k (A.deeper (envOfC x (defScope st) s.heap.objs.size f cdv)) → sp vs H Q E →
      ∃ t, PSs (L2H.cxH CX P w K mg base N x (defScope st) f cdv A outer s H E p) (defBody st) t ∧ t { nx := fun _ H' => Q .non H', rt := Q } (start N vs) H) : CalP P w K mg base CX (k + 1) x ps sp p := by
  obtain ⟨fd, F, g⟩ := D
  have B := F.bindsN hb
  have kp := F.kp
  obtain ⟨oc, od, dV, kV, doc, pm, an, cdv, ct, osl, rfl, lk, hcd, _, _⟩ := F.ex
  refine ⟨⟨_, _, ⟨len, fun A outer s H args us vs Q E hr hot hpin e0 hbd r hsp => ?_⟩, g, kp, B⟩⟩
  have hl := len _ _ _ _ hsp
  have KX : K.In s.heap := e0.mod.kin.keeps fun b o e => (e0.bs b o e).1
  have lim : s.heap.NoLimit := e0.mod.nolimit.keeps fun b o e => (e0.bs b o e).1
  have hkind : ∀ y ∈ ps.zip us, (defScope st).names.lookup y.1 = some .local ∨ ((defScope st).names.lookup y.1 = some .cell ∧ ((cellsFrom (s.heap.objs.size + 1) (defScope st).names []).lookup y.1).isSome = true) := fun ⟨n, v⟩ hy => by
    rcases S.par n (List.of_mem_zip hy).1 with q | q
    · exact .inl q
    · exact .inr ⟨q, PySem.W.cellsFrom_some _ _ _ (.inl q)⟩
  refine codeAny_call_function hr.depth (KX _ _ lk) rfl S.co S.gen rfl (PySem.W.codeRec_of KX hcd) (hbd _ _ _ _ ?_)
  refine wpAny_newFunctionEnv_cells S.kind hkind fun env he s1 x1 => ?_
  subst he
  refine ⟨lim.keeps x1.toInCall.keep, codeAny_func ?_⟩
  obtain ⟨t, ht, hq⟩ := hbody _ cdv A outer s H vs Q E (hr.deeper _) hsp
  have I : Inv (L2H.cxH CX P w K mg base N x (defScope st) _ cdv A outer s H E p) [] (start N vs) H s1 := L2H.inv_startH S hpin e0 hl r x1
  refine wpAny_mono (ht.run [] s1 (start N vs) H _ I hq) (fun fl s' hs => ?_) fun e s' hs => hs
  cases fl with
  | ret u =>
    obtain ⟨v, σ', H', J, rv, q⟩ := hs
    exact ⟨v, H', J.os, J.bare, J.base, J.hok, rv, q⟩
  | next =>
    obtain ⟨σ', H', J, q⟩ := hs
    exact ⟨V.non, H', J.os, J.bare, J.base, J.hok, rfl, q⟩
  | brk =>
    obtain ⟨_, _, _, q⟩ := hs
    exact False.elim q
  | cont =>
    obtain ⟨_, _, _, q⟩ := hs
    exact False.elim q
theorem pe_callP {X : Cx} {k : Nat} {x : Str} {ps : List Str} {sp : Sp} {pn : Addr × Obj} {e : Expr} {es : List Expr} {t : TA} {p pos : Pos} (C : CalP X.prog X.w X.K X.mg X.base CX0 k x ps sp pn) (hr : L2H.RoomH k X.A) (hot : L2H.Hot1 X.A pn) (hp : pn ∈ X.pn) (ha : PA X (e :: es) t) (hg : Gl X x := by rfl)
    (hdb : (x == ("__debug__" : Str)) = false := by decide) (he : starEach (e :: es) X.env = (false, eval e X.env) :: starEach es X.env := by rfl) (hpl : (backTo pos (starEach es X.env)).any (·.1) = false := by rfl) :
    PE X (.Call (.Name x p) (e :: es) [] pos) (tCallS sp (fun _ => E0) t) := by
  obtain ⟨f, fd, F, hm, hk, hb⟩ := C.ex
  refine ⟨fun pins s σ H Q I h => ?_⟩
  refine wpAny_Call_Name_kw (ld_glob I hg hm ?_ hdb)
  refine PySem.W.callWith_K (h₀ := X.base) I.ok.mod.kin hk (thn (ha.run pos pins s σ H _ I h) fun us s1 ⟨vs, H1, I1, r, q⟩ => ⟨I1.kIn, ?_⟩) he hpl
  have hl : us.length = ps.length := by rw [← r.length]; exact F.len _ _ _ _ q
  have b := hb s1 us I1.kIn (by rw [List.append_nil]; exact hl)
  rw [List.append_nil] at b
  have P1 := I1.pin pn (List.mem_append_left _ hp)
  have hpin : L2H.PinOk X.stack H1 s1 pn := ⟨P1.1, P1.2.1, fun hm => (List.mem_cons.mp (I1.stkSub pn.1 hm)).elim P1.2.2.1 P1.2.2.2.1, P1.2.2.2.2⟩
  refine wpAny_call (codeAny_mono (F.run X.A X.stack s1 H1 ⟨us, []⟩ us vs Q E0 hr hot hpin I1.env0 b r q) fun r' s' hq => ?_)
  cases r' with
  | error e => exact False.elim hq
  | ok fl =>
    cases fl with
    | ret u => exact I1.after hq
    | next => exact False.elim hq
    | brk => exact False.elim hq
    | cont => exact False.elim hq
/-- the suite's exception -/
theorem hot_suite {X : Cx} {a : Addr} {oe : Obj} {pn : List (Addr × Obj)} {cls : Value} {d : Option Addr} (hz : L2N.Zn cls d oe) (hf : ∃ vs, oe.data = .fields vs) : L2H.Hot1 (X.suite a ((a, oe) :: pn)).A (a, oe) := by
  obtain ⟨vs, e⟩ := hf
  exact ⟨rfl, vs, e, hz.2.2 vs e⟩
theorem roomH_suite {k : Nat} {A : Around} (r : Room k A) (h : Option Value) : L2H.RoomH k (A.mark h) := ⟨r.dp, r.un⟩
/-- isinstance(e, c), e the pinned exception -/
theorem call_isP {X : Cx} {a D : Addr} {oe : Obj} (C : ExcC X.K D) (hz : Zc (.ref D) none oe) (hf : ∃ vs, oe.data = .fields vs) (hp : (a, oe) ∈ X.pn) : CallR X (.builtin "isinstance") (rIsE X.K D a) := by
  intro pins s σ H xs us Q I r h
  obtain ⟨c, cv, b, rfl, hcv, e, q⟩ := h
  cases r with
  | cons rx rr =>
    cases rr with
    | cons rt rr =>
      cases rr
      cases rx
      have ec := hcv _ rt
      subst ec
      obtain ⟨hget, _⟩ := I.pin (a, oe) (List.mem_append_left _ hp)
      obtain ⟨vs, hv⟩ := hf
      have J : PySem.W.InstAt s.heap a oe D none := by
        obtain ⟨oc, od, oda, osl⟩ := oe
        obtain ⟨h1, h2⟩ := hz
        dsimp only at h1 h2 hv
        subst h1 h2 hv
        exact ⟨hget, rfl, rfl, trivial⟩
      exact PySem.W.kia_one (PySem.W.handS_kitx_exc C.hg C.hk C.hs C.hd C.ha C.hn C.ht C.hm) I.kIn J e (fun z => by cases z) fun tk => ⟨.bl b, H, I.kept (t' := tk) fun _ _ z => z, rfl, q⟩
/-- list.count of flat values -/
def rCntF (K : PySem.W.Frag) : V → List V → Hp → VK → Prop := fun x xs H Q => ∃ (p : Addr) (ys : List V) (y : V), x = .ref p ∧ xs = [y] ∧ SqL K H p ys ∧ flatV y = true ∧ ys.all flatV = true ∧ Q (.int (ys.countP fun z => eqV z y : Nat)) H
theorem countP_eqU {x : V} : ∀ {xs : List V} {us : List Value}, Vals xs us → xs.all flatV = true → us.countP (eqU x) = xs.countP fun y => eqV y x
  | _, _, .nil, _ => rfl
  | y :: xs, u :: us, .cons r t, f => by
    rw [List.all_cons, Bool.and_eq_true] at f
    rw [List.countP_cons, List.countP_cons, countP_eqU t f.2, eqU_of r f.1]
theorem mt_fcount {X : Cx} : MtR X "list.count" (rCntF X.K) := by
  intro pins s σ H x xs v us Q I rx rxs h
  obtain ⟨p, ys, y, rfl, rfl, hs, fy, fys, q⟩ := h
  cases rx
  obtain ⟨u, rfl, ru⟩ := rxs.one
  obtain ⟨its, rv, ⟨⟨cls, dd, data, sl⟩, n, ho, hc, hdn, hd⟩, hlen⟩ := I.list hs
  simp only at hc hd
  subst hc hd
  refine call_meets PySem.F.slot_list_count ⟨_, ho, rfl⟩ PySem.F.entry_list_count (PySem.F.args_list_count_2 _ _)
    (SeqAt.list_countAt p its.toArray n dd sl u (eqU y)) ⟨ho, fun z hz => mem_eqAt ru fy rv fys z (by simpa using hz), ?_⟩
  refine ⟨.int (ys.countP fun z => eqV z y : Nat), H, I.tok _, ⟨s.toks, ?_⟩, q⟩
  show Value.int ((its.toArray.toList.countP (eqU y) : Nat) : Int) s.toks = _
  rw [show its.toArray.toList = its by simp, countP_eqU rv fys]

/-! ### a list comprehension whose element may let an exception out -/
/-- the ground without one object -/
theorem ground_less {B h : Heap} {l : List Env} {a C : Addr} {Z : Obj → Prop} (x : HandSPX.FlyingZ B l a Z h) : HandSPX.FlyingZ (PySem.W.hideAll B [C]) l a Z h := by
  obtain ⟨st, na, ff, oe, vs, tb, ot, ts, e1, e2, e3, e4, e5, e6, e7, e8, e9⟩ := x
  have less : ∀ b, B.get? b = none → (PySem.W.hideAll B [C]).get? b = none := fun b hb => by
    cases q : (PySem.W.hideAll B [C]).get? b with
    | none => rfl
    | some o =>
      have := PySem.W.of_hideAll _ q
      rw [hb] at this
      cases this
  exact ⟨fun b o e => st b o (PySem.W.of_hideAll _ e), less a na, L2.funFrames_none ff fun b hb => less b (ff.mem hb).1, oe, vs, tb, ot, ts, e1, e2, e3, e4, less tb e5, e6, e7, e8, e9⟩
/-- the block's names are let go while an exception is held -/
theorem held_past {B h h2 : Heap} {l : List Env} {a L C : Addr} {Z : Obj → Prop} {m m2 : Str → Option Value} (x : HandSPX.HeldZ (PySem.W.hideAll B [C]) l a Z L h) (n : h.Ns C m) (n2 : h2.Ns C m2) (sb : Heap.SameBut C h h2) :
    (PySem.W.hideAll B [C]).StaysIn h2 ∧ h2.FunFrames (PySem.W.hideAll B [C]) l ∧ HandSPX.TracedZ h2 (PySem.W.hideAll B [C]) a Z (rawInt L) := by
  obtain ⟨st, na, ff, oe, vs, tb, ot, ts, e1, e2, e3, e4, e5, e6, e7, e8, e9⟩ := x
  obtain ⟨oC, es, ep, c1, c2, c3⟩ := n
  have hide : (PySem.W.hideAll B [C]).get? C = none := PySem.W.hideAll_none _ (List.mem_singleton.mpr rfl)
  have neC : ∀ (b : Addr) (o : Obj) (us : Array Value), h.get? b = some o → o.data = .fields us → b ≠ C := fun b o us e d z => by
    rw [z, c1] at e
    rw [← Option.some.inj e, c2] at d
    cases d
  refine ⟨fun b o e => (sb.2 b fun z => ?_).trans (st b o e), Heap.FunFrames.sameBut sb n2 ff, oe, vs, tb, ot, ts, (sb.2 a (neC a oe vs e1 e3)).trans e1, e2, e3, e4, e5, e6, (sb.2 tb (neC tb ot ts e7 e8)).trans e7, e8, e9⟩
  rw [z, hide] at e
  cases e
/-- what a callee lets out within the block goes on in the def -/
theorem block_fails {X : Cx} {W : WX} {E : XK} {pins pins' pn : List (Addr × Obj)} {σ σ' : L2.St} {s3 sB s' : Shared} {H3 HB : Hp} {scope : Scope} {ce : Env} {fp : List Addr} {xe : Value → Shared → Prop} {u : Value}
    (tk : L2N.Takes X W) (hst : X.stack = X.env :: X.outer) (hfr : X.env.frame = some X.env.locals) (hcf : ce.frame = X.env.frame) (hcl : ce.locals = s3.heap.objs.size) (hE : ∀ cls d H, E cls d H → W cls d σ H)
    (I3 : Inv X pins σ H3 s3) (hfp : ∀ b ∈ fp, FpOk X pins H3 b) (IB : Inv ((X.blk s3 H3 scope ce fp).tr pn xe) pins' σ' HB sB) (c : L2N.CX X.prog X.w X.stack HB sB E u s') :
    notedBy (model X.prog X.w) X.A ce (CompFails (model X.prog X.w) X.A X.xe ce) u s' := by
  have c0 := c
  obtain ⟨a0, B0, H0, cls0, d0, hu0, fl0, _⟩ := c0
  obtain ⟨a, B, sI, pinsI, σI, HI, cls, d, hu, J, nb, up, sky, na, os, ag, hw⟩ := L2N.XE.of_call (W := fun cls d _ H => E cls d H) IB (fun _ _ _ z => z) c
  obtain rfl : a0 = a := Value.ref.inj (hu0.symm.trans hu)
  have fl : HandSPX.FlyingZ B X.stack a0 (L2N.Zn cls d) s'.heap := by
    obtain ⟨_, _, _, oe, vs, tb, ot, ts, e1, _, e3, e4, _, _, e7, e8, e9⟩ := fl0
    rcases sky with ⟨_, _, _, oe2, vs2, q1, _, q3, q4⟩ | sky | ⟨_, _, _, oe2, vs2, tb2, ot2, ts2, q1, _, q3, q4, _, _, q7, q8, q9⟩
    · rw [e1] at q1
      obtain rfl := Option.some.inj q1
      rw [e3] at q3
      obtain rfl := Data.fields.inj q3
      rw [e4] at q4
      cases q4
    · exact sky
    · rw [e1] at q1
      obtain rfl := Option.some.inj q1
      rw [e3] at q3
      obtain rfl := Data.fields.inj q3
      rw [e4] at q4
      obtain rfl := Value.ref.inj (Option.some.inj q4)
      rw [e7] at q7
      obtain rfl := Option.some.inj q7
      rw [e8] at q8
      obtain rfl := Data.fields.inj q8
      rw [e9] at q9
      cases q9
  subst hu
  clear sky fl0 hu0
  -- the def's own state, without the block's names
  have nC : HI s3.heap.objs.size = none := by
    have := J.free
    rw [← hcl]
    exact this
  have J1 : Inv X pins σ HI sI := I3.call' (ch := fp) J.os J.base J.hok J.bare fun b hb => ⟨(hfp b hb).2.2.2.1, (hfp b hb).2.1, (hfp b hb).2.2.2.2.1, (hfp b hb).2.2.2.2.2⟩
  obtain ⟨f0, f1, f2, f3, f4, f5⟩ := I3.fpOk (H' := HI) (Nat.le_refl _) nC
  have J2 : Inv X pins σ HI { sI with heap := PySem.W.hideAll sI.heap [s3.heap.objs.size], toks := sI.toks } := J1.turned (it := s3.heap.objs.size) (fun b o hb e => PySem.W.hideAll_get _ e fun hm => hb (List.mem_singleton.mp hm)) f0 f1 f3 f4 f5
  obtain ⟨m, hn, _⟩ := J.loc
  have hn : sI.heap.Ns ce.locals m := hn
  have hfrm : X.A.frames = some (X.env :: X.outer) := by rw [J1.ok.frames, hst]
  have flB : HandSPX.FlyingZ (PySem.W.hideAll B [ce.locals]) (X.env :: X.outer) a0 (L2N.Zn cls d) s'.heap := ground_less (by rw [← hst]; exact fl)
  show wpAny _ X.A (noteFrame (.ref a0) ce) _ _ s'
  rw [noteFrame_env _ hcf]
  refine PXN.looks_onZ L2N.Zn.steady hfrm hfr flB fun h1 hH up1 => ?_
  have hn1 : h1.Ns ce.locals m := (hn.upToSlots up).upToSlots up1
  refine ⟨m, hn1, fun h2 m2 hn2 sb => ?_⟩
  obtain ⟨k1, k2, k3⟩ := held_past hH hn1 hn2 sb
  obtain ⟨oe, vs, tb, ot, ts, e1, e2, e3, e4, e5⟩ := id k3
  unfold PySem.passOn
  refine wpAny_bind (wpAny_field e1 e3 e4 ?_)
  rw [if_neg (show ¬ ((Value.ref tb == Value.none) = true) from by simp), hcf, hfr]
  refine wpAny_bind (HandSPX.setFlight_anyZ (fr := some X.env.locals) k1 k2 k3 fun h3 r1 r2 r3 r4 => wpAny_throw (tk _ _ ?_))
  refine ⟨a0, PySem.W.hideAll B [ce.locals], _, pins, σ, HI, cls, d, rfl, J2, fun b o e hb => ?_, fun b o hnf => ?_, .inr (.inr ⟨r1, flB.2.1, by rw [hst]; exact r2, r3⟩), na, os, ag, hE _ _ _ hw⟩
  · refine PySem.W.hideAll_get _ (nb b o (PySem.W.of_hideAll _ e) hb) fun hm => ?_
    have : (PySem.W.hideAll sI.heap [s3.heap.objs.size]).get? b = none := PySem.W.hideAll_none _ (by rw [← hcl]; exact hm)
    have e : (PySem.W.hideAll sI.heap [s3.heap.objs.size]).get? b = some o := e
    rw [this] at e
    cases e
  · intro nf
    have e : (PySem.W.hideAll sI.heap [s3.heap.objs.size]).get? b = some o := hnf
    have neC : b ≠ ce.locals := fun z => by
      rw [PySem.W.hideAll_none _ (List.mem_singleton.mpr (z.trans hcl))] at e
      cases e
    obtain ⟨s1, q1⟩ := up b o (PySem.W.of_hideAll _ e) nf
    obtain ⟨s2, q2⟩ := up1 b _ q1 nf
    obtain ⟨s4, q4⟩ := r4 b _ ((sb.2 b neC).trans q2) nf
    exact ⟨s4, q4⟩
def tLcX (W : WX) (wi : TI) (g : TG) (te : XK → TE) (vs : List Nat) : TE := fun σ H Q => tLc wi g tYes (te fun cls d H' => W cls d σ H') vs σ H Q
theorem ps_setLcX {X : Cx} {W : WX} {i : Nat} {y : Str} {py pos spos : Pos} {elt tg iter : Expr} {scope : Scope} {own : List (Str × Nat)} {wi : TI} {g : TG} {te : XK → TE}
    (calm : X.calm = true) (nd : X.N.Nodup) (gy : X.N[i]? = some y) (ly : X.env.scope.names.lookup y = some .local)
    (sw : swapsWith (.ListComp elt [⟨tg, iter, [], 0⟩] scope pos) (some (.Name y py)) spos.line X.env = pure true) (tk : L2N.Takes X W) (hst : X.stack = X.env :: X.outer) (hfr : X.env.frame = some X.env.locals) (pi : PI X tg iter wi) (blk : BlkOk X.N X.env.scope scope own)
    (pg : ∀ (s : Shared) (H : Hp) (C : Addr) (cl : List (Str × Addr)) (fp : List Addr), PG (X.blk s H scope (compEnvC scope cl C X.env) fp) tg g)
    (pe : ∀ (s : Shared) (H : Hp) (C : Addr) (cl : List (Str × Addr)) (fp : List Addr) (pn : List (Addr × Obj)) (xe : Value → Shared → Prop) (E : XK), (∀ τ, PassesAt (L2N.CX X.prog X.w) ((X.blk s H scope (compEnvC scope cl C X.env) fp).tr pn xe) τ E) → PE ((X.blk s H scope (compEnvC scope cl C X.env) fp).tr pn xe) elt (te E))
    (fs : ∀ x, foldedSetIterable iter X.env x = pure x := by intro _; rfl) :
    PS X (.Assign [.Name y py] (.ListComp elt [⟨tg, iter, [], 0⟩] scope pos) spos) (tAsg (tLcX W wi g te (own.map (·.2))) (gName i)) := by
  refine ⟨fun pins s σ H Ds I h => ?_⟩
  rw [exec_Assign_Name_used _ _ _ _ sw]
  have free : ∀ z ∈ scope.names, z.2 = .free → ∃ c, X.env.cells.lookup z.1 = some c := fun z hz e => (blk.free z hz e).elim (fun k => I.ok.has _ (.inl k)) fun k => I.ok.has _ (.inr k)
  refine wpAny_bind (wpAny_standAt (wpAny_bind ?_))
  show wpAny (model X.prog X.w) X.A (do
    let _ ← comprehension (.ListComp elt [⟨tg, iter, [], 0⟩] scope pos) scope X.env (firstIterPos [⟨tg, iter, [], 0⟩] pos) (newList []) false (eval iter X.env) (some (assign (.Name y py) X.env))) _ _ s
  have h : tLc wi g tYes (te fun cls d H' => W cls d σ H') (own.map (·.2)) σ H (fun x H1 => gName i x σ H1 Ds.nx) := h
  generalize hE : (fun cls d H' => W cls d σ H' : XK) = E at h
  have hEW : ∀ cls d H', E cls d H' → W cls d σ H' := fun cls d H' q => by
    rw [← hE] at q
    exact q
  refine wpAny_bind (wpAny_mono (comprehension_at (Q := fun _ s' => SP X pins Ds .next s') rfl fs (closure_ok free) blk.kind (fun z hz e => by rw [blk.uniq z hz, e]) ?_)
    (fun _ _ q => wpAny_pure (wpAny_pure q)) fun _ _ q => q)
  refine thn (pi.run pins s σ H _ I h) fun xv s1 q1 => thn q1 fun itv s2 q2 => ?_
  obtain ⟨it, fp, tn, J, H2, rfl, I2, T, st2, f2, q⟩ := q2
  refine wpAny_newObj_type (newEnv_comp ?_) (by show 0 ≤ sizeLine; decide)
  generalize eD : s2.heap.objs.size = D
  have nD : H2 D = none := I2.hok.fresh (Nat.le_of_eq eD)
  obtain ⟨Wv, ⟨m0, w0⟩, turn⟩ := q D nD
  generalize e3 : ({ s2 with heap := s2.heap.push { cls := .type "list", data := .seq ([] : List Value).toArray } } : Shared) = s3
  have hp3 : s3.heap = s2.heap.push { cls := .type "list", data := .seq ([] : List Value).toArray } := by rw [← e3]
  have I3 : Inv X pins σ (upd H2 D (.lst [])) s3 := by
    rw [← e3]
    refine I2.laid (t' := s2.toks) (fun b o e => Heap.get?_push_of_some _ e) (Nat.le_of_eq eD) ⟨Nat.zero_le _, [], 0, .nil, ?_⟩
    rw [← eD]
    exact Heap.get?_push_size _ rfl
  have below : ∀ b ∈ fp, b < s2.heap.objs.size := fun b hb => (T.obj _ _ st2 b hb).elim fun o e => Heap.lt_size e.1
  have f3 : ∀ b ∈ fp, FpOk X pins (upd H2 D (.lst [])) b ∧ b < s3.heap.objs.size := fun b hb => by
    have lt := below b hb
    have ne : b ≠ D := by
      rw [← eD]
      exact Nat.ne_of_lt lt
    exact ⟨⟨by rw [upd_ne ne]; exact (f2 b hb).1, (f2 b hb).2⟩, by rw [hp3, Heap.size_push]; exact Nat.lt_succ_of_lt lt⟩
  have st3 : tn 0 s3.heap := T.keep _ _ _ st2 fun b _ o e => by
    rw [hp3]
    exact Heap.get?_push_of_some _ e
  have I4 := block_start I3 blk nd f3
  have tg3 := pg s3 (upd H2 D (.lst [])) s3.heap.objs.size (cellsFrom (s3.heap.objs.size + 1) scope.names (cloFrom X.env.cells scope.names [])) fp
  have el3 := pe s3 (upd H2 D (.lst [])) s3.heap.objs.size (cellsFrom (s3.heap.objs.size + 1) scope.names (cloFrom X.env.cells scope.names [])) fp
  show codeAny (model X.prog X.w) X.A (.compStart (.ListComp elt [⟨tg, iter, [], 0⟩] scope pos) 0 (.ref it) (.ref D) (compEnvC scope (cellsFrom (s3.heap.objs.size + 1) scope.names (cloFrom X.env.cells scope.names [])) s3.heap.objs.size X.env))
    (compEnds (model X.prog X.w) X.A X.xe (some (assign (.Name y py) X.env)) (fun _ s' => SP X pins Ds .next s') (.ref D) (compEnvC scope (cellsFrom (s3.heap.objs.size + 1) scope.names (cloFrom X.env.cells scope.names [])) s3.heap.objs.size X.env))
    { s3 with heap := pushCells (s3.heap.push { cls := .type "dict", data := .dict #[] }) scope.names }
  generalize ece : compEnvC scope (cellsFrom (s3.heap.objs.size + 1) scope.names (cloFrom X.env.cells scope.names [])) s3.heap.objs.size X.env = ce at I4 tg3 el3 ⊢
  have cL : ce.locals = s3.heap.objs.size := by
    rw [← ece]
    rfl
  have cF : ce.frame = X.env.frame := by
    rw [← ece]
    rfl
  generalize eH3 : upd H2 D (.lst []) = H3 at I3 I4 tg3 el3 w0 f3
  generalize e4 : ({ s3 with heap := pushCells (s3.heap.push { cls := .type "dict", data := .dict #[] }) scope.names } : Shared) = s4 at I4 ⊢
  have st4 : tn 0 s4.heap := T.keep _ _ _ st3 fun b _ o e => by
    rw [← e4]
    exact pushCells_keeps _ _ _ _ (Heap.get?_push_of_some _ e)
  have still : ∀ {σ' : L2.St} {H' : Hp} {s' : Shared}, Inv (X.blk s3 H3 scope ce fp) [] σ' H' s' → (∀ b ∈ fp, H' b = none) → ∀ b ∈ fp, FpOk (X.blk s3 H3 scope ce fp) [] H' b := fun J' hn b hb =>
    ⟨hn b hb, (J'.ok.exf b hb).1, J'.ok.exfs b hb, .inl hb, fun x c e => (J'.ok.exf b hb).2 x c e, fun p hp => absurd (show p ∈ ([] : List (Addr × Obj)) ++ [] from hp) (by simp)⟩
  let ends := compEnds (model X.prog X.w) X.A X.xe (some (assign (.Name y py) X.env)) (fun _ s' => SP X pins Ds .next s') (.ref D) ce
  have loop : codeAny (model X.prog X.w) X.A (.compLoop (.ListComp elt [⟨tg, iter, [], 0⟩] scope pos) 0 (.ref it) (.ref D) ce) ends s4 := by
    refine compLoop_any (fun n s' => ∃ k H', Inv (X.blk s3 H3 scope ce fp) [] (wipe σ (own.map (·.2))) H' s' ∧ tn k s'.heap ∧ (∀ b ∈ fp, H' b = none) ∧ Wv k n H') ?_ m0 ⟨0, H3, I4, st4, fun b hb => (f3 b hb).1.1, w0⟩
    rintro n s5 ⟨k, H5, I5, st5, n5, w5⟩
    rcases turn k n H5 w5 with ⟨stop, fin⟩ | ⟨go, Nx, hNx, step⟩
    · refine thnF (T.done (X.blk s3 H3 scope ce fp) rfl rfl rfl calm k [] s5 _ H5 (fun _ _ => False) I5 (still I5 n5) st5 stop) fun r s6 ⟨er, I6⟩ => ?_
      subst er
      have I7 : Inv X pins σ H5 s6 := I3.call' (ch := fp) I6.os I6.base I6.hok I6.bare fun b hb => ⟨(f3 b hb).1.2.2.2.1, (f3 b hb).1.2.1, (f3 b hb).1.2.2.2.2.1, (f3 b hb).1.2.2.2.2.2⟩
      have nC : H5 s3.heap.objs.size = none := by
        rw [← cL]
        exact I6.free
      obtain ⟨m, hn, _⟩ := I6.loc
      have hn : s6.heap.Ns ce.locals m := hn
      rw [cL] at hn
      obtain ⟨f0, f1, f2', f4, f5, f6⟩ := I3.fpOk (H' := H5) (Nat.le_refl _) nC
      show wpAny (model X.prog X.w) X.A (assign (.Name y py) X.env (.ref D)) _ _ s6
      refine wpAny_assign_Name (store_ok2 (v := V.ref D) I7 nd gy (.inl ly) rfl (fun sE IE ⟨b, sb, hb⟩ => ?_) (.inr ly))
      have neC : s3.heap.objs.size ≠ b := by
        rcases hb with z | z
        · rw [z]
          exact f1
        · exact fun e => f5 y b z e.symm
      refine ⟨m, by rw [cL]; exact hn.sameBut sb neC, fun hL sbL => ?_⟩
      rw [cL] at sbL
      exact ⟨_, H5, IE.turned (t' := sE.toks) (fun b o hb e => (sbL.2 b hb).trans e) f0 f1 f4 f5 f6, fin⟩
    · refine thnF (T.item (X.blk s3 H3 scope ce fp) rfl rfl rfl calm k [] s5 _ H5 (fun _ _ => False) I5 (still I5 n5) st5 go) fun r s6 ⟨u, er, q6⟩ => ?_
      subst er
      refine thnF q6 fun _ s7 ⟨x, H7, I7, r7, y7, st7, n7⟩ => ?_
      have I7p := I7.pinned (still I7 n7) (T.obj _ _ st7)
      refine thnF (tg3.run _ s7 _ H7 x u _ I7p r7 (step x H7 y7)) fun _ s8 ⟨σ8, H8, I8, ew, q8⟩ => ?_
      have next : ∀ {s' : Shared} {H' : Hp}, Inv (X.blk s3 H3 scope ce fp) ([] ++ pinsAt fp s7.heap) σ8 H' s' → Nx H' → ∃ m, m < n ∧ ∃ k H', Inv (X.blk s3 H3 scope ce fp) [] (wipe σ (own.map (·.2))) H' s' ∧ tn k s'.heap ∧ (∀ b ∈ fp, H' b = none) ∧ Wv k m H' := fun {s' H'} J' nx => by
        obtain ⟨m', lt, w'⟩ := hNx H' nx
        have pin : ∀ b ∈ fp, ∀ o, s7.heap.get? b = some o → s'.heap.get? b = some o ∧ H' b = none := fun b hb o e => by
          have z := J'.pin (b, o) (List.mem_append_right _ (List.mem_append_right _ (mem_pinsAt hb e)))
          exact ⟨z.1, z.2.1⟩
        have len : (wipe σ (own.map (·.2))).length = σ8.length := by
          rw [← ew, wipe_length]
        refine ⟨m', lt, k + 1, H', (J'.unpinned (pins := [])).weak len (fun j v e => ?_), T.keep _ _ _ st7 fun b hb o e => (pin b hb o e).1, fun b hb => ?_, w'⟩
        · rw [← ew] at e
          exact (wipe_some e).1
        · obtain ⟨o, e, _⟩ := T.obj _ _ st7 b hb
          exact (pin b hb o e).2
      refine wpAny_tests_nil ?_
      show wpAny (model X.prog X.w) X.A (eval elt ce) _ _ s8
      refine wpAny_mono ((el3 _ (notedBy (model X.prog X.w) X.A ce (CompFails (model X.prog X.w) X.A X.xe ce)) E fun τ pins' H' s' e s'' IB c => block_fails tk hst hfr cF cL hEW I3 (fun b hb => (f3 b hb).1) IB c).run [] s8 σ8 H8 _ (I8.toTry _) q8)
        (fun z s9 ⟨yv, H9, I9, r9, acc, eD9, lz, nx⟩ => ?_) fun _ _ e => e
      exact app_ok (X := X.blk s3 H3 scope ce fp) (I9.ofTry I8.ok) eD9 lz r9 fun s10 I10 => next I10 nx
  exact codeAny_compStart_list loop (T.self X.A 0 _ _ _ st4 loop)
theorem pe_callXb {X : Cx} {E : XK} {k : Nat} {x : Str} {ps : List Str} {sp : Sp} {e : Expr} {es : List Expr} {t : TA} {p pos : Pos} (C : Cal X.prog X.w X.K X.mg X.base (L2N.CX X.prog X.w) k x ps sp) (hx : ∀ τ, PassesAt (L2N.CX X.prog X.w) X τ E) (hr : Room k X.A) (ha : PA X (e :: es) t) (hg : Gl X x := by rfl)
    (hdb : (x == ("__debug__" : Str)) = false := by decide) (he : starEach (e :: es) X.env = (false, eval e X.env) :: starEach es X.env := by rfl) (hpl : (backTo pos (starEach es X.env)).any (·.1) = false := by rfl) :
    PE X (.Call (.Name x p) (e :: es) [] pos) (tCallS sp (fun _ => E) t) := by
  obtain ⟨f, fd, F, hm, hk, hb⟩ := C.ex
  exact pe_callS (E := fun _ => E) F hr hg hm hk hb hx ha hdb he hpl

/-! ### words of a text, their values -/
theorem op_mulS {X : Cx} : OpR X (binaryOp .Mult) (fun x y H Q => ∃ (z : Str) (n : Int), x = .str z ∧ y = .int n ∧ MulOk z n ∧ Q (.str (Txt.mul z n)) H) := by
  intro pins s σ H x y v u Q I rx ry h
  obtain ⟨z, n, rfl, rfl, hok, q⟩ := h
  obtain ⟨t, rfl⟩ := rx
  obtain ⟨t', rfl⟩ := ry
  exact SB.mul hok fun t2 k => ⟨.str (Txt.mul z n), H, I.tok _, ⟨_, rfl⟩, q⟩
theorem figs_are : figs.cps.toList = [48, 49, 50, 51, 52, 53, 54, 55, 56, 57] := by decide +kernel
theorem fig_iff {c : Nat} : c ∈ figs.cps.toList ↔ 48 ≤ c ∧ c ≤ 57 := by
  rw [figs_are]
  simp only [List.mem_cons, List.not_mem_nil, or_false]
  omega
structure wOk (L : Nat) (w : Str) : Prop where
  l1 : 1 ≤ w.length
  l2 : w.length ≤ L
  fig : ∀ c ∈ w.cps.toList, 48 ≤ c ∧ c ≤ 57
  nz : w.cps.toList[0]? ≠ some 48
def wVal (w : Str) : Int := (NumText.digitsVal w.cps.toList : Nat)
theorem len_list (w : Str) : w.cps.toList.length = w.length := by
  rw [Array.length_toList]
  rfl
theorem wOk.mono {L M : Nat} {w : Str} (h : wOk L w) (hl : w.length ≤ M) : wOk M w := ⟨h.l1, hl, h.fig, h.nz⟩
theorem wOk.read {L : Nat} {w : Str} (h : wOk L w) (hL : L ≤ 640) : PySem.intText? w = some (wVal w) := by
  refine PySem.intText_digits h.fig (fun e => ?_) ?_
  · have := h.l1
    rw [← len_list, e] at this
    exact absurd this (by decide)
  · have := h.l2
    omega
theorem fold_ge : ∀ (cs : List Nat) (acc : Nat), acc * 10 ^ cs.length ≤ cs.foldl (fun acc c => acc * 10 + (c - 48)) acc
  | [], acc => by
    show acc * 1 ≤ acc
    omega
  | c :: cs, acc => by
    have ih := fold_ge cs (acc * 10 + (c - 48))
    rw [List.foldl_cons, List.length_cons, Nat.pow_succ]
    refine Nat.le_trans ?_ ih
    rw [Nat.mul_comm (10 ^ cs.length) 10, ← Nat.mul_assoc]
    exact Nat.mul_le_mul_right _ (Nat.le_add_right _ _)
theorem wOk.big {L : Nat} {w : Str} (h : wOk L w) (h4 : 4 ≤ w.length) : 1000 ≤ wVal w := by
  have hl := len_list w
  have hf := h.fig
  have hz := h.nz
  unfold wVal
  match hw : w.cps.toList with
  | [] =>
    rw [hw] at hl
    have : 0 = w.length := hl
    omega
  | c :: cs =>
    rw [hw] at hl hf hz
    have hc := hf c (List.mem_cons_self ..)
    have hc2 : c ≠ 48 := fun e => hz (congrArg some e)
    have hcs : 3 ≤ cs.length := by
      have : cs.length + 1 = w.length := hl
      omega
    have h1 := fold_ge cs (0 * 10 + (c - 48))
    have h2 : 10 ^ 3 ≤ 10 ^ cs.length := Nat.pow_le_pow_right (by decide) hcs
    have h3 : 1 * 10 ^ cs.length ≤ (0 * 10 + (c - 48)) * 10 ^ cs.length := Nat.mul_le_mul_right _ (by omega)
    have h4 : NumText.digitsVal (c :: cs) = cs.foldl (fun acc c => acc * 10 + (c - 48)) (0 * 10 + (c - 48)) := rfl
    rw [h4]
    omega
/-- the setting that a text writes -/
structure Writes (t : Str) (ns : List Int) : Prop where
  are : ns = (Txt.split t blank).map wVal
  ok : ∀ w ∈ Txt.split t blank, wOk 30 w
  good : Good ns
  sum : ns.sum ≤ 100
theorem Writes.three {t : Str} {ns : List Int} (h : Writes t ns) : ∀ w ∈ Txt.split t blank, wOk 3 w := fun w hw => by
  have h30 := h.ok w hw
  refine h30.mono ?_
  rcases Nat.lt_or_ge w.length 4 with l | l
  · omega
  · exfalso
    have h1 := h30.big l
    have h2 : wVal w ∈ ns := by
      rw [h.are]
      exact List.mem_map.mpr ⟨w, hw, rfl⟩
    have h3 := mem_le_sum (fun z hz => by have := h.good.pos z hz; omega) _ h2
    have := h.sum
    omega
theorem Writes.not {t w : Str} (hw : w ∈ Txt.split t blank) (h : ¬ wOk 3 w) : ¬ ∃ ns, Writes t ns := fun ⟨_, q⟩ => h (q.three w hw)
theorem Writes.not30 {t w : Str} (hw : w ∈ Txt.split t blank) (h : ¬ wOk 30 w) : ¬ ∃ ns, Writes t ns := fun ⟨_, q⟩ => h (q.ok w hw)
theorem join_ge {sep : Str} (hs : sep.length = 1) : ∀ ps : List Str, (∀ w ∈ ps, w.length ≤ (Str.join sep ps).length) ∧ ps.length ≤ (Str.join sep ps).length + 1
  | [] => ⟨fun w hw => (by cases hw), Nat.zero_le _⟩
  | [p] => ⟨fun w hw => by rw [List.mem_singleton.mp hw]; exact Nat.le_refl _, Nat.succ_le_succ (Nat.zero_le _)⟩
  | p :: q :: r => by
    obtain ⟨h1, h2⟩ := join_ge hs (q :: r)
    have e : (Str.join sep (p :: q :: r)).length = p.length + 1 + (Str.join sep (q :: r)).length := by
      show (p ++ sep ++ Str.join sep (q :: r)).length = _
      rw [len_app, len_app, hs]
    rw [e]
    refine ⟨fun w hw => ?_, by rw [List.length_cons]; omega⟩
    rcases List.mem_cons.mp hw with rfl | hw
    · omega
    · have := h1 w hw
      omega
theorem split_bound (t : Str) : (∀ w ∈ Txt.split t blank, w.length ≤ t.length) ∧ (Txt.split t blank).length ≤ t.length + 1 := by
  have := join_ge (sep := blank) (by decide +kernel) (Txt.split t blank)
  rw [StrLaws.join_split] at this
  exact this

/-! ### the text -/
def top (i : Nat) : Stmt := PySem.Challenge.pw_pilewheel_k19_read_or_refused.main.body.getD i (.Pass ⟨0, 0, 0, 0⟩)
abbrev s_is_setting : Stmt := top 9
abbrev s_pile_of : Stmt := top 12
abbrev s_read : Stmt := top 13
abbrev s_law_cell : Stmt := top 15
abbrev s_law_ints : Stmt := top 16
abbrev s_law_next : Stmt := top 17
abbrev s_law_fallen : Stmt := top 18
abbrev s_law_turned : Stmt := top 19
abbrev s_law_stair : Stmt := top 20
abbrev s_law_by_marks : Stmt := top 21
abbrev s_law_drawn_marks : Stmt := top 22
abbrev s_law_elder : Stmt := top 23
abbrev s_law_drawn_piles : Stmt := top 24
abbrev s_law_setting : Stmt := top 25
abbrev s_law_good : Stmt := top 26
abbrev s_law_which : Stmt := top 27
abbrev s_law_due : Stmt := top 28
abbrev s_law_sign : Stmt := top 29
abbrev s_law_odd : Stmt := top 30
abbrev s_law : Stmt := top 31
structure Txt (K : PySem.W.Frag) (mg : Str → Option Value) : Prop where
  d_is_setting : DefAt K mg "is_setting" s_is_setting
  d_pile_of : DefAt K mg "pile_of" s_pile_of
  d_read : DefAt K mg "read" s_read
  d_law_cell : DefAt K mg "_law_cell" s_law_cell
  d_law_ints : DefAt K mg "_law_ints" s_law_ints
  d_law_next : DefAt K mg "_law_next" s_law_next
  d_law_fallen : DefAt K mg "_law_fallen" s_law_fallen
  d_law_turned : DefAt K mg "_law_turned" s_law_turned
  d_law_stair : DefAt K mg "_law_stair" s_law_stair
  d_law_by_marks : DefAt K mg "_law_by_marks" s_law_by_marks
  d_law_drawn_marks : DefAt K mg "_law_drawn_marks" s_law_drawn_marks
  d_law_elder : DefAt K mg "_law_elder" s_law_elder
  d_law_drawn_piles : DefAt K mg "_law_drawn_piles" s_law_drawn_piles
  d_law_setting : DefAt K mg "_law_setting" s_law_setting
  d_law_good : DefAt K mg "_law_good" s_law_good
  d_law_which : DefAt K mg "_law_which" s_law_which
  d_law_due : DefAt K mg "_law_due" s_law_due
  d_law_sign : DefAt K mg "_law_sign" s_law_sign
  d_law_odd : DefAt K mg "_law_odd" s_law_odd
  c_FIGURES : ∃ u, mg "FIGURES" = some u ∧ RelV (.str "0123456789") u
  c_MOST : ∃ u, mg "MOST" = some u ∧ RelV (.int 100) u
  m_ValueError : mg "ValueError" = none
  m_bool : mg "bool" = none
  m_int : mg "int" = none
  m_isinstance : mg "isinstance" = none
  m_len : mg "len" = none
  m_list : mg "list" = none
  m_min : mg "min" = none
  m_range : mg "range" = none
  m_reversed : mg "reversed" = none
  m_sorted : mg "sorted" = none
  m_str : mg "str" = none
  m_sum : mg "sum" = none
  xc : ∀ x ∈ eNames, XCls K mg x
  g_PileError : mg "PileError" = some (.ref (He.ga K "PileError"))

section
variable {P : Program} {w : World} {K : PySem.W.Frag} {mg : Str → Option Value} {base : Heap}
theorem sc_is_setting : FnScope ["piles", "k"] ["piles"] (defScope s_is_setting) := ⟨rfl, rfl, rfl, by decide +kernel, rfl, by decide +kernel, by decide +kernel⟩
def sp_is_setting : Sp := fun vs H Q _ => ∃ (a : Addr) (ns : List Int), vs = [.ref a] ∧ IL H a ns ∧ ns.length ≤ 1000 ∧ ∀ b : Bool, (b = true ↔ Good ns ∧ ns.sum ≤ 100) → Q (.bl b) H
theorem ok_is_setting (T : Txt K mg) : Cal P w K mg base CX0 1 "is_setting" ["piles"] sp_is_setting := by
  refine cal_mk T.d_is_setting sc_is_setting ?_ (fun _ _ _ _ _ _ us hl => match us, hl with | [_], _ => rfl) (fun f cdv A outer s H vs Q E hr h => ?_)
  · intro vs H Q E h
    obtain ⟨a, ns, rfl, _⟩ := h
    rfl
  obtain ⟨a, ns, rfl, hS, hl, q⟩ := h
  refine ⟨_, (pss_cons (ps_if (PW.pt (pw_or (pt_cmpR op_lt (pe_callB call_len_seq (by rfl) T.m_len PySem.boot_len (pa_cons (pv 0) pa_nil)) pe_int (nomark _)) (pw_or1 (pt_cmpR op_gt (pe_callB (cr_sum rfl) (by rfl) T.m_sum (by decide +kernel) (pa_cons (pv 0) pa_nil)) (pe_globX T.c_MOST) (nomark _)))))
      (pss_one (ps_ret pe_bl)) pss_nil)
      (pss_cons (ps_for PassesOwn.never rfl (pi_range1 (by rfl) T.m_range (pa_cons (pe_callB call_len_seq (by rfl) T.m_len PySem.boot_len (pa_cons (pv 0) pa_nil)) pa_nil)) (pg_name (i := 1) sc_is_setting.nd rfl (Or.inl rfl))
      (pss_cons (ps_if (pt_cmpR op_lt (pe_ix ix_list (pv 0) (pv 1) (fun _ _ => rfl)) pe_int (nomark _))
      (pss_one (ps_ret pe_bl)) pss_nil)
      (pss_one (ps_if (PW.pt (pw_and (pt_cmpR op_gt (pv 1) pe_int (nomark _)) (pw_and1 (pt_cmpR op_gt (pe_ix ix_list (pv 0) (pv 1) (fun _ _ => rfl)) (pe_ix ix_list (pv 0) (pe_op op_sub (pv 1) pe_int) (fun _ _ => rfl)) (nomark _)))))
      (pss_one (ps_ret pe_bl)) pss_nil))))
      (pss_one (ps_ret pe_bl)))), ?_⟩
  have no : (¬ (Good ns ∧ ns.sum ≤ 100)) → Q (.bl false) H := fun h => q false ⟨fun z => (by cases z), fun z => absurd z h⟩
  refine ⟨_, rfl, a, _, rfl, .inl (sq hS), _, _, rfl, rfl, _, rfl, ite2 (fun c => ?_) (fun c => ⟨_, rfl, a, ns, rfl, sq hS, _, _, rfl, rfl, _, rfl, ite2 (fun c2 => ?_) (fun c2 => ?_)⟩)⟩
  · refine no fun h => ?_
    have c' : ((ns.map V.int).length : Int) < 1 := of_decide_eq_true c
    rw [nlen] at c'
    have := List.length_pos_iff.mpr h.1.ne
    omega
  · refine no fun h => ?_
    have c' : (100 : Int) < ns.sum := of_decide_eq_true c2
    omega
  · have c1' : ¬ ((ns.map V.int).length : Int) < 1 := fun h => c (decide_eq_true h)
    have c2' : ¬ (100 : Int) < ns.sum := fun h => c2 (decide_eq_true h)
    rw [nlen] at c1'
    refine ⟨_, rfl, a, _, rfl, .inl (sq hS), _, rfl, by rw [nlen]; omega, by rw [nlen]; omega, for_range (lo := 0) (n := ((ns.map V.int).length : Int).toNat) (fun i σ H' => ∃ y, σ = [some (.ref a), y] ∧ H' = H ∧ Adj ns i) ⟨none, rfl, rfl, fun j hj => by omega⟩ ?_ ?_⟩
    · intro i σ H' hi h
      obtain ⟨y, rfl, rfl, ha⟩ := h
      rw [nlen] at hi
      have hi : i < ns.length := by omega
      have gi : ns[i]? = some ns[i] := List.getElem?_eq_getElem hi
      have ai : atI (ns.map V.int) (0 + (i : Int)) = some (.int ns[i]) := at_of (j := i) (by omega) (int_get gi)
      refine ⟨_, rfl, _, rfl, a, _, _, .int ns[i], rfl, rfl, sq hS, ai, _, _, rfl, rfl, _, rfl, ite2 (fun d => ?_) (fun d => ?_)⟩
      · refine no fun h => ?_
        have d' : ns[i] < 1 := of_decide_eq_true d
        have := ((good_adj.mp h.1).2 i hi _ gi).1
        omega
      · have d' : ¬ ns[i] < 1 := fun h => d (decide_eq_true h)
        have more : (∀ y, 0 < i → ns[i - 1]? = some y → ns[i] ≤ y) → Adj ns (i + 1) := fun hy j hj x hx => by
          rcases Nat.lt_or_ge j i with l | l
          · exact ha j l x hx
          · obtain rfl : j = i := by omega
            obtain rfl : ns[j] = x := Option.some.inj (gi.symm.trans hx)
            exact ⟨by omega, hy⟩
        refine ⟨_, rfl, _, _, rfl, rfl, _, rfl, ite2 (fun e => ?_) (fun e => ?_)⟩
        · have e' : (0 : Int) < 0 + (i : Int) := of_decide_eq_true e
          have gp : ns[i - 1]? = some (ns[i - 1]'(by omega)) := List.getElem?_eq_getElem (by omega)
          refine ⟨_, rfl, _, rfl, a, _, _, .int ns[i], rfl, rfl, sq hS, ai, _, rfl, _, rfl, _, _, rfl, rfl, a, _, _, .int (ns[i - 1]'(by omega)), rfl, rfl, sq hS, at_of (j := i - 1) (by omega) (int_get gp), _, _, rfl, rfl, _, rfl, ite2 (fun f => ?_) (fun f => ?_)⟩
          · refine no fun h => ?_
            have f' : ns[i - 1]'(by omega) < ns[i] := of_decide_eq_true f
            have := ((good_adj.mp h.1).2 i hi _ gi).2 _ (by omega) gp
            omega
          · have f' : ¬ ns[i - 1]'(by omega) < ns[i] := fun h => f (decide_eq_true h)
            refine ⟨_, rfl, rfl, more fun y _ hy => ?_⟩
            rw [gp] at hy
            have := Option.some.inj hy
            omega
        · have e' : ¬ (0 : Int) < 0 + (i : Int) := fun h => e (decide_eq_true h)
          exact ⟨_, rfl, rfl, more fun y h0 _ => by omega⟩
    · intro σ H' h
      obtain ⟨y, rfl, rfl, ha⟩ := h
      rw [nlen, Int.toNat_natCast] at ha
      exact q true ⟨fun _ => ⟨good_adj.mpr ⟨fun e => by rw [e] at c1'; exact c1' (by decide), ha⟩, by omega⟩, fun _ => rfl⟩

end

section
variable {P : Program} {w : World} {K : PySem.W.Frag} {mg : Str → Option Value} {base : Heap}
theorem sc_pile_of : FnScope ["word", "sign"] ["word"] (defScope s_pile_of) := ⟨rfl, rfl, rfl, by decide +kernel, rfl, by decide +kernel, by decide +kernel⟩
def sp_pile_of (K : PySem.W.Frag) : Sp := fun vs H Q E => ∃ w : Str, vs = [.str w] ∧ w.length ≤ 100000 ∧ (wOk 3 w → Q (.int (wVal w)) H) ∧ (¬ wOk 3 w → E (.ref (He.ga K "NoNote")) none H)
theorem atI_zero {α : Type} {l : List α} {c : α} (h : l[0]? = some c) : atI l 0 = some c := by
  have hl := (List.getElem?_eq_some_iff.mp h).1
  unfold atI ixN
  rw [if_pos (Int.le_refl 0), if_pos (by omega)]
  exact h
theorem sign_eq {c d : Nat} : (V.str ⟨#[c]⟩ = V.str ⟨#[d]⟩) ↔ c = d := by
  constructor
  · intro e
    have e := V.str.inj e
    have := congrArg (fun z : Str => z.cps.toList) e
    have h2 : [c] = [d] := this
    injection h2
  · rintro rfl
    rfl
theorem ok_pile_of (T : Txt K mg) : Cal P w K mg base (L2N.CX P w) 1 "pile_of" ["word"] (sp_pile_of K) := by
  refine cal_mkX T.d_pile_of sc_pile_of ?_ (fun _ _ _ _ _ _ us hl => match us, hl with | [_], _ => rfl) (fun f cdv A outer s H vs Q E hr h tk => ?_)
  · intro vs H Q E h
    obtain ⟨w, rfl, _⟩ := h
    rfl
  obtain ⟨wd, rfl, hl, q, e⟩ := h
  refine ⟨_, (pss_cons (ps_if (PW.pt (pw_or (pt_cmpR op_lt (pe_callB call_len_str (by rfl) T.m_len PySem.boot_len (pa_cons (pv 0) pa_nil)) pe_int (nomark _)) (pw_or (pt_cmpR op_gt (pe_callB call_len_str (by rfl) T.m_len PySem.boot_len (pa_cons (pv 0) pa_nil)) pe_int (nomark _)) (pw_or1 (pt_cmpR op_eq (pe_ix ix_str (pv 0) pe_int (fun _ _ => rfl)) pe_str (nomark _))))))
      (pss_one (L2N.ps_raise rfl tk (pmk_x (T.xc "NoNote" (by decide)) (by rfl)))) pss_nil)
      (pss_cons (ps_for (passes_of rfl) rfl (pi_str (pv 0)) (pg_name (i := 1) sc_pile_of.nd rfl (Or.inl rfl))
      (pss_one (ps_if (pt_cmpR op_notIn_sign (pv 1) (pe_globX T.c_FIGURES) rfl)
      (pss_one (L2N.ps_raise rfl tk (pmk_x (T.xc "NoNote" (by decide)) (by rfl)))) pss_nil)))
      (pss_one (ps_ret (pe_callTy (T := "int") call_int_str (by rfl) T.m_int (by decide +kernel) (pa_cons (pv 0) pa_nil)))))), ?_⟩
  have hsz : wd.length ≤ sizeLine := small hl
  refine ⟨_, rfl, _, rfl, hsz, _, _, rfl, rfl, _, rfl, ite2 (fun c => e fun o => ?_) (fun c1 => ?_)⟩
  · have := of_decide_eq_true c
    have := o.l1
    omega
  have c1' : ¬ ((wd.length : Nat) : Int) < 1 := fun h => c1 (decide_eq_true h)
  refine ⟨_, rfl, _, rfl, hsz, _, _, rfl, rfl, _, rfl, ite2 (fun c => e fun o => ?_) (fun c2 => ?_)⟩
  · have := of_decide_eq_true c
    have := o.l2
    omega
  have c2' : ¬ (3 : Int) < ((wd.length : Nat) : Int) := fun h => c2 (decide_eq_true h)
  have htl := len_list wd
  obtain ⟨c0, hc0⟩ : ∃ c, wd.cps.toList[0]? = some c := ⟨_, List.getElem?_eq_getElem (by omega)⟩
  refine ⟨_, rfl, _, _, c0, rfl, rfl, hsz, atI_zero hc0, rfl, _, rfl, ite2 (fun c => e fun o => ?_) (fun c3 => ?_)⟩
  · have e1 : c0 = 48 := sign_eq.mp (of_decide_eq_true c)
    rw [e1] at hc0
    exact o.nz hc0
  have hnz : wd.cps.toList[0]? ≠ some 48 := fun h => c3 (by
    rw [hc0] at h
    exact decide_eq_true (sign_eq.mpr (Option.some.inj h)))
  refine ⟨_, rfl, _, rfl, for_it walk_str (fun i σ H' => ∃ y, σ = [some (.str wd), y] ∧ H' = H ∧ ∀ j c, j < i → wd.cps.toList[j]? = some c → 48 ≤ c ∧ c ≤ 57) ⟨none, rfl, rfl, fun j c h => absurd h (Nat.not_lt_zero _)⟩ (fun _ _ _ _ _ => trivial) ?_ ?_⟩
  · intro i x σ H' H'' hi h hy
    obtain ⟨y, rfl, rfl, hb⟩ := h
    obtain ⟨rfl, c, hc, rfl⟩ := hy
    have hc' : wd.cps.toList[i]? = some c := by rw [Array.getElem?_toList]; exact hc
    refine ⟨_, rfl, c, _, rfl, rfl, _, rfl, ite2 (fun d => e fun o => ?_) (fun d => ?_)⟩
    · have hm : c ∈ (Str.ofString "0123456789").cps.toList := fig_iff.mpr (o.fig c (List.mem_of_getElem? hc'))
      rw [decide_eq_true hm] at d
      cases d
    · refine ⟨_, rfl, rfl, fun j c2 hj h2 => ?_⟩
      rcases Nat.lt_or_ge j i with l | l
      · exact hb j c2 l h2
      · obtain rfl : j = i := by omega
        rw [hc'] at h2
        obtain rfl := Option.some.inj h2
        refine fig_iff.mp ?_
        by_cases hm : c ∈ figs.cps.toList
        · exact hm
        · exact absurd (by rw [show decide (c ∈ (Str.ofString "0123456789").cps.toList) = false from decide_eq_false hm]; rfl) d
  · intro σ H' h
    obtain ⟨y, rfl, rfl, hb⟩ := h
    have ok : wOk 3 wd := ⟨by omega, by omega, fun c hc => by
      obtain ⟨j, hj⟩ := List.getElem?_of_mem hc
      have hj1 := (List.getElem?_eq_some_iff.mp hj).1
      rw [Array.length_toList] at hj1
      exact hb j c hj1 hj, hnz⟩
    exact ⟨_, rfl, _, _, rfl, ok.read (by omega), by omega, q ok⟩

end

section
variable {P : Program} {w : World} {K : PySem.W.Frag} {mg : Str → Option Value} {base : Heap}
theorem sc_read : FnScope ["text", "piles", "word"] ["text"] (defScope s_read) := ⟨rfl, rfl, rfl, by decide +kernel, rfl, by decide +kernel, by decide +kernel⟩
def sp_read (K : PySem.W.Frag) : Sp := fun vs H Q E => ∃ t : Str, vs = [.str t] ∧ t.length ≤ 900 ∧ (∀ ns, Writes t ns → NL Q H ns) ∧ ((¬ ∃ ns, Writes t ns) → ∀ H', Same H H' → E (.ref (He.ga K "NoNote")) none H')
theorem ok_read (T : Txt K mg) : Cal P w K mg base (L2N.CX P w) 2 "read" ["text"] (sp_read K) := by
  have C_is_setting := ok_is_setting (P := P) (w := w) (base := base) T
  have C_pile_of := ok_pile_of (P := P) (w := w) (base := base) T
  refine cal_mkX T.d_read sc_read ?_ (fun _ _ _ _ _ _ us hl => match us, hl with | [_], _ => rfl) (fun f cdv A outer s H vs Q E hr h tk => ?_)
  · intro vs H Q E h
    obtain ⟨t, rfl, _⟩ := h
    rfl
  obtain ⟨t, rfl, hl, q, e⟩ := h
  obtain ⟨hw, hn⟩ := split_bound t
  refine ⟨_, (pss_cons (ps_setLcX (i := 1) (own := [("word", 2)]) (g := gName 2) rfl sc_read.nd rfl rfl (sw_true rfl rfl rfl (by decide +kernel)) tk rfl rfl (pi_list (pe_split (pv 0) pe_str)) (blkOk_by (own := [("word", 2)]) (N := ["text", "piles", "word"]) (sc := defScope s_read) (by decide +kernel)) (fun _ _ _ _ _ => pg_name (i := 2) sc_read.nd rfl (Or.inl rfl)) (fun _ _ _ _ _ _ _ _ hx => (pe_callXb C_pile_of hx (hr.mono (by decide)) (pa_cons (pv 2) pa_nil))))
      (pss_cons (ps_if (pt_not (pt_val (pe_callF C_is_setting (hr.mono (by decide)) (pa_cons (pv 1) pa_nil))))
      (pss_one (L2N.ps_raise rfl tk (pmk_x (T.xc "NoNote" (by decide)) (by rfl)))) pss_nil)
      (pss_one (ps_ret (pv 1))))), ?_⟩
  refine ⟨_, rfl, ⟨_, rfl⟩, _, _, rfl, rfl, by decide +kernel, small (by omega), fun S nS => ?_⟩
  have s1 := same_new nS (.lst ((Txt.split t blank).map V.str))
  have eS : (upd H S (.lst ((Txt.split t blank).map V.str))) S = some (.lst ((Txt.split t blank).map V.str)) := upd_same
  have hno : ∀ w ∈ Txt.split t blank, ¬ wOk 3 w → ¬ ∃ ns, Writes t ns := fun w hw h => Writes.not hw h
  have hyes : ∀ ns, Writes t ns ↔ ns = (Txt.split t blank).map wVal ∧ (∀ w ∈ Txt.split t blank, wOk 30 w) ∧ Good ns ∧ ns.sum ≤ 100 := fun ns => ⟨fun h => ⟨h.are, h.ok, h.good, h.sum⟩, fun h => ⟨h.1, h.2.1, h.2.2.1, h.2.2.2⟩⟩
  have eb : Txt.split t (Str.ofString " ") = Txt.split t blank := rfl
  rw [eb]
  generalize Txt.split t blank = ws at *
  generalize upd H S (.lst (ws.map V.str)) = H1 at *
  refine ⟨S, rfl, ⟨_, sq eS⟩, fun D nD => lc_list (K := K) (a := S) (xs := ws.map V.str) (fun i H' => Same H1 H' ∧ IL H' D ((ws.take i).map wVal) ∧ ∀ w ∈ ws.take i, wOk 3 w) ⟨same_new nD _, upd_same, fun w hw => by cases hw⟩ (fun i H' _ h => sq (h.1 _ _ eS)) ?_ ?_⟩
  · intro i x H' hx h
    obtain ⟨sm, eD, hok⟩ := h
    rw [List.getElem?_map] at hx
    cases hz : ws[i]? with
    | none =>
      rw [hz] at hx
      cases hx
    | some wd =>
      rw [hz] at hx
      obtain rfl := Option.some.inj hx
      have hm := List.mem_of_getElem? hz
      have hil := (List.getElem?_eq_some_iff.mp hz).1
      have hwl := hw wd hm
      refine ⟨rfl, _, rfl, wd, rfl, by omega, fun ok => ?_, fun no => e (hno wd hm no) H' (s1.trans sm)⟩
      refine ⟨_, eD, by rw [nlen, List.length_map, List.length_take]; exact smallL (by omega), same_mut sm nD _, ?_, fun w hw => ?_⟩
      · show upd _ _ _ _ = _
        rw [upd_same, take_snoc hz, List.map_append, List.map_append] <;> rfl
      · rw [take_snoc hz] at hw
        rcases List.mem_append.mp hw with hw | hw
        · exact hok w hw
        · rw [List.mem_singleton.mp hw]
          exact ok
  · intro H2 h
    obtain ⟨sm, eD, hok⟩ := h
    rw [List.length_map, List.take_length] at eD hok
    refine ⟨_, rfl, D, ws.map wVal, rfl, eD, by rw [List.length_map]; omega, fun b hb => ?_⟩
    cases b with
    | true =>
      obtain ⟨hg, hs⟩ := hb.mp rfl
      exact ⟨true, rfl, _, rfl, q _ ((hyes _).mpr ⟨rfl, fun w hw => (hok w hw).mono (by have := (hok w hw).l2; omega), hg, hs⟩) H2 D (s1.trans sm) (s1.free nD) eD⟩
    | false =>
      refine ⟨false, rfl, e (fun ⟨ns, hns⟩ => ?_) H2 (s1.trans sm)⟩
      obtain ⟨rfl, _, hg, hs⟩ := (hyes ns).mp hns
      have := hb.mpr ⟨hg, hs⟩
      cases this

end

section
variable {P : Program} {w : World} {K : PySem.W.Frag} {mg : Str → Option Value} {base : Heap}
theorem sc_law_which : FnScope ["e", "told"] ["e"] (defScope s_law_which) := ⟨rfl, rfl, rfl, by decide +kernel, rfl, by decide +kernel, by decide +kernel⟩
def sp_law_which (K : PySem.W.Frag) (cls : Value) (d : Option Addr) (a : Addr) : Sp := fun vs H Q _ => ∃ (j : Nat) (x : Str), cls = .ref (He.ga K x) ∧ d = none ∧ eNames[j]? = some x ∧ vs = [.ref a] ∧ ∀ H', Same H H' → Q (.int (j : Int)) H'
theorem names5 : ∀ j : Fin 5, ∀ i : Fin 5, decide (eNames.getD j.1 "" = eNames.getD i.1 "") = decide (j.1 = i.1) := by decide +kernel
theorem names_at {j : Nat} {x : Str} (h : eNames[j]? = some x) : j < 5 ∧ ∀ (i : Nat) (y : Str), eNames[i]? = some y → decide (x = y) = decide (j = i) := by
  have hj : j < 5 := (List.getElem?_eq_some_iff.mp h).1
  refine ⟨hj, fun i y hy => ?_⟩
  have hi : i < 5 := (List.getElem?_eq_some_iff.mp hy).1
  have := names5 ⟨j, hj⟩ ⟨i, hi⟩
  rw [List.getD_eq_getElem?_getD, List.getD_eq_getElem?_getD, h, hy] at this
  exact this
theorem ok_law_which (T : Txt K mg) {a : Addr} {oe : Obj} {cls : Value} {d : Option Addr} (hz : L2N.Zn cls d oe) (hf : ∃ vs, oe.data = .fields vs) : CalP P w K mg base CX0 1 "_law_which" ["e"] (sp_law_which K cls d a) (a, oe) := by
  refine cal_mkP T.d_law_which sc_law_which ?_ (fun _ _ _ _ _ _ us hl => match us, hl with | [_], _ => rfl) (fun f cdv A outer s H vs Q E hr h => ?_)
  · intro vs H Q E h
    obtain ⟨j, x, _, _, _, rfl, _⟩ := h
    rfl
  obtain ⟨j, x, rfl, rfl, hj, rfl, q⟩ := h
  have hx : x ∈ eNames := List.mem_of_getElem? hj
  have X := T.xc x hx
  have is := X.is
  refine ⟨_, (pss_cons (ps_set (i := 1) sc_law_which.nd rfl (Or.inl rfl) (pe_lst (pa_cons (pe_callB (call_isP (T.xc _ hx).ec hz.zc hf (List.mem_cons_self ..)) (by rfl) T.m_isinstance (by decide +kernel) (pa_cons (pv 0) (pa_cons (pe_cls (T.xc "NoPiles" (by decide))) pa_nil))) (pa_cons (pe_callB (call_isP (T.xc _ hx).ec hz.zc hf (List.mem_cons_self ..)) (by rfl) T.m_isinstance (by decide +kernel) (pa_cons (pv 0) (pa_cons (pe_cls (T.xc "NotRound" (by decide))) pa_nil))) (pa_cons (pe_callB (call_isP (T.xc _ hx).ec hz.zc hf (List.mem_cons_self ..)) (by rfl) T.m_isinstance (by decide +kernel) (pa_cons (pv 0) (pa_cons (pe_cls (T.xc "NoMarks" (by decide))) pa_nil))) pa_nil)))))
      (pss_cons (ps_set (i := 1) sc_law_which.nd rfl (Or.inl rfl) (pe_op op_cat (pv 1) (pe_lst (pa_cons (pe_callB (call_isP (T.xc _ hx).ec hz.zc hf (List.mem_cons_self ..)) (by rfl) T.m_isinstance (by decide +kernel) (pa_cons (pv 0) (pa_cons (pe_cls (T.xc "NoNumber" (by decide))) pa_nil))) (pa_cons (pe_callB (call_isP (T.xc _ hx).ec hz.zc hf (List.mem_cons_self ..)) (by rfl) T.m_isinstance (by decide +kernel) (pa_cons (pv 0) (pa_cons (pe_cls (T.xc "NoNote" (by decide))) pa_nil))) pa_nil)))))
      (pss_cons (ps_if (PW.pt (pw_or (pt_not (pt_val (pe_callB (call_isP (T.xc _ hx).ec hz.zc hf (List.mem_cons_self ..)) (by rfl) T.m_isinstance (by decide +kernel) (pa_cons (pv 0) (pa_cons (pe_bltn (v := .ty "ValueError") (by rfl) T.m_ValueError (by decide +kernel) rfl) pa_nil))))) (pw_or1 (pt_cmpR op_ne (pe_bm PySem.F.plainAttrs_list PySem.F.slot_list_count PySem.F.type_list_count mt_fcount (pv 1) (pa_cons pe_bl pa_nil)) pe_int (nomark _)))))
      (pss_one (ps_ret pe_int)) pss_nil)
      (pss_one (ps_ret (pe_bm PySem.F.plainAttrs_list PySem.F.slot_list_index PySem.F.type_list_index mt_index (pv 1) (pa_cons pe_bl pa_nil))))))), ?_⟩
  have k : ∀ y ∈ eNames, PySem.W.kitOne K (.ref (He.ga K x)) (.ref (He.ga K y)) = some (decide (x = y)) := is
  have R : ∀ (y : Str) (u : Value), RelV (V.ref (He.ga K y)) u → u = .ref (He.ga K y) := fun y u r => r
  have l3 : ∀ (n : Nat), n ≤ 5 → n ≤ sizeLine := fun n h => Nat.le_trans h (by decide)
  refine ⟨_, rfl, _, _, _, rfl, R _, k _ (by decide), _, rfl, _, _, _, rfl, R _, k _ (by decide), _, rfl, _, _, _, rfl, R _, k _ (by decide), l3 3 (by decide), fun p np => ?_⟩
  refine ⟨_, rfl, _, rfl, _, _, _, rfl, R _, k _ (by decide), _, rfl, _, _, _, rfl, R _, k _ (by decide), l3 2 (by decide), fun p2 np2 => ?_⟩
  have s1 := same_new np (.lst [V.bl (decide (x = "NoPiles")), V.bl (decide (x = "NotRound")), V.bl (decide (x = "NoMarks"))])
  have s2 := same_new np2 (.lst [V.bl (decide (x = "NoNumber")), V.bl (decide (x = "NoNote"))])
  refine ⟨p, p2, _, _, rfl, rfl, s2 _ _ upd_same, upd_same, l3 5 (by decide), fun p3 np3 => ?_⟩
  have s3 := same_new np3 (.lst ([V.bl (decide (x = "NoPiles")), V.bl (decide (x = "NotRound")), V.bl (decide (x = "NoMarks"))] ++ [V.bl (decide (x = "NoNumber")), V.bl (decide (x = "NoNote"))]))
  refine ⟨_, rfl, .ty "ValueError", .type "ValueError", true, rfl, fun u r => r, X.ve, ?_⟩
  obtain ⟨hj5, hn⟩ := names_at hj
  rw [hn 0 "NoPiles" rfl, hn 1 "NotRound" rfl, hn 2 "NoMarks" rfl, hn 3 "NoNumber" rfl, hn 4 "NoNote" rfl] at *
  have hq := fun o3 => q _ ((s1.trans s2).trans (same_new np3 o3))
  have h5 : j = 0 ∨ j = 1 ∨ j = 2 ∨ j = 3 ∨ j = 4 := by omega
  refine ⟨true, rfl, _, rfl, .inl ⟨rfl, _, sq upd_same⟩, p3, _, _, rfl, rfl, sq upd_same, rfl, rfl, ?_⟩
  rcases h5 with rfl | rfl | rfl | rfl | rfl
  all_goals
    refine ⟨rfl, _, rfl, ite2 (fun c => absurd c (by decide)) (fun _ => ?_)⟩
    refine ⟨_, rfl, .inl ⟨rfl, _, sq upd_same⟩, p3, _, _, _, .bl true, rfl, rfl, sq upd_same, rfl, rfl, ?_, rfl, ?_, hq _⟩
  all_goals
    first
      | rfl
      | (intro m z' hm hz
         have h4 : m = 0 ∨ m = 1 ∨ m = 2 ∨ m = 3 := by omega
         rcases h4 with rfl | rfl | rfl | rfl <;> first | omega | (cases hz; rfl))

end

section
variable {P : Program} {w : World} {K : PySem.W.Frag} {mg : Str → Option Value} {base : Heap}
theorem sc_law_cell : FnScope ["script", "k", "base"] ["script", "k"] (defScope s_law_cell) := ⟨rfl, rfl, rfl, by decide +kernel, rfl, by decide +kernel, by decide +kernel⟩
/-- any number may stand in a cell -/
def sp_law_cell (K : PySem.W.Frag) : Sp := fun vs H Q _ => ∃ (a : Addr) (ns : List Int) (k : Int), vs = [.ref a, .int k] ∧ SL K H a ns ∧ 0 ≤ k ∧ ∀ z, Q (.int z) H
theorem ok_law_cell (T : Txt K mg) : Cal P w K mg base CX0 1 "_law_cell" ["script", "k"] (sp_law_cell K) := by
  refine cal_mk T.d_law_cell sc_law_cell ?_ (fun _ _ _ _ _ _ us hl => match us, hl with | [_, _], _ => rfl) (fun f cdv A outer s H vs Q E hr h => ?_)
  · intro vs H Q E h
    obtain ⟨a, ns, k, rfl, _⟩ := h
    rfl
  obtain ⟨a, ns, k, rfl, hS, h0, q⟩ := h
  refine ⟨_, (pss_cons (ps_if (pt_cmpR op_lt (pv 1) (pe_callB call_len_seq (by rfl) T.m_len PySem.boot_len (pa_cons (pv 0) pa_nil)) (nomark _))
      (pss_one (ps_ret (pe_ix ix_list (pv 0) (pv 1) (fun _ _ => rfl)))) pss_nil)
      (pss_cons (ps_set (i := 2) sc_law_cell.nd rfl (Or.inl rfl) pe_int)
      (pss_cons (ps_if (pt_cmpR op_gt (pe_callB call_len_seq (by rfl) T.m_len PySem.boot_len (pa_cons (pv 0) pa_nil)) pe_int (nomark _))
      (pss_one (ps_set (i := 2) sc_law_cell.nd rfl (Or.inl rfl) (pe_ix ix_list (pv 0) pe_int (fun _ _ => rfl)))) pss_nil)
      (pss_one (ps_ret (pe_op op_mod (pe_op op_add (pe_op op_mul (pe_op op_mod (pv 2) pe_int) pe_int) (pe_op op_mul (pv 1) pe_int)) pe_int)))))), ?_⟩
  refine ⟨_, rfl, _, rfl, a, _, rfl, .inl hS, _, _, rfl, rfl, _, rfl, ite2 (fun c => ?_) (fun c => ?_)⟩
  · have c' : k < ((ns.map V.int).length : Int) := of_decide_eq_true c
    rw [List.length_map] at c'
    obtain ⟨j, rfl⟩ : ∃ j : Nat, k = j := ⟨k.toNat, by omega⟩
    have hj : j < ns.length := by omega
    exact ⟨_, rfl, _, rfl, a, _, _, .int ns[j], rfl, rfl, hS, atI_nat (int_get (List.getElem?_eq_getElem hj)), q _⟩
  · refine ⟨_, rfl, a, _, rfl, .inl hS, _, _, rfl, rfl, _, rfl, ite2 (fun c => ?_) (fun c => ?_)⟩
    · have c' : (0 : Int) < ((ns.map V.int).length : Int) := of_decide_eq_true c
      rw [List.length_map] at c'
      have hj : 0 < ns.length := by omega
      refine ⟨_, rfl, a, _, 0, .int ns[0], rfl, rfl, hS, atI_nat (j := 0) (int_get (List.getElem?_eq_getElem hj)), ?_⟩
      exact ⟨_, rfl, _, _, rfl, rfl, (by show (0 : Int) < 65521; decide), _, _, rfl, rfl, .inr ⟨by decide, by decide⟩, _, rfl, _, _, rfl, rfl, .inr ⟨by decide, by decide⟩, _, _, rfl, rfl, _, _, rfl, rfl, (by show (0 : Int) < 65521; decide), q _⟩
    · exact ⟨_, rfl, _, _, rfl, rfl, (by show (0 : Int) < 65521; decide), _, _, rfl, rfl, .inr ⟨by decide, by decide⟩, _, rfl, _, _, rfl, rfl, .inr ⟨by decide, by decide⟩, _, _, rfl, rfl, _, _, rfl, rfl, (by show (0 : Int) < 65521; decide), q _⟩

end

section
variable {P : Program} {w : World} {K : PySem.W.Frag} {mg : Str → Option Value} {base : Heap}
theorem sc_law_next : FnScope ["step"] ["step"] (defScope s_law_next) := ⟨rfl, rfl, rfl, by decide +kernel, rfl, by decide +kernel, by decide +kernel⟩
def sp_law_next : Sp := fun vs H Q _ => ∃ n : Int, vs = [.int n] ∧ ∀ z, Q (.int z) H
theorem ok_law_next (T : Txt K mg) : Cal P w K mg base CX0 1 "_law_next" ["step"] sp_law_next := by
  refine cal_mk T.d_law_next sc_law_next ?_ (fun _ _ _ _ _ _ us hl => match us, hl with | [_], _ => rfl) (fun f cdv A outer s H vs Q E hr h => ?_)
  · intro vs H Q E h
    obtain ⟨n, rfl, _⟩ := h
    rfl
  obtain ⟨n, rfl, q⟩ := h
  refine ⟨_, (pss_one (ps_ret (pe_op op_mod (pe_op op_add (pe_op op_mul (pv 0) pe_int) pe_int) pe_int))), ?_⟩
  exact ⟨_, rfl, _, _, rfl, rfl, .inr ⟨by decide, by decide⟩, _, _, rfl, rfl, _, _, rfl, rfl, (by show (0 : Int) < 2147483647; decide), q _⟩

end

section
variable {P : Program} {w : World} {K : PySem.W.Frag} {mg : Str → Option Value} {base : Heap}
theorem sc_law_fallen : FnScope ["piles"] ["piles"] (defScope s_law_fallen) := ⟨rfl, rfl, rfl, by decide +kernel, rfl, by decide +kernel, by decide +kernel⟩
def sp_law_fallen : Sp := fun vs H Q _ => ∃ (a : Addr) (ns : List Int), vs = [.ref a] ∧ IL H a ns ∧ NL Q H (fall ns)
theorem ok_law_fallen (T : Txt K mg) : Cal P w K mg base CX0 1 "_law_fallen" ["piles"] sp_law_fallen := by
  refine cal_mk T.d_law_fallen sc_law_fallen ?_ (fun _ _ _ _ _ _ us hl => match us, hl with | [_], _ => rfl) (fun f cdv A outer s H vs Q E hr h => ?_)
  · intro vs H Q E h
    obtain ⟨a, ns, rfl, _⟩ := h
    rfl
  obtain ⟨a, ns, rfl, hS, q⟩ := h
  refine ⟨_, (pss_one (ps_ret (pe_listRev rfl (by rfl) T.m_list (by rfl) T.m_reversed (pe_callB cr_sortedI (by rfl) T.m_sorted (by decide +kernel) (pa_cons (pv 0) pa_nil))))), ?_⟩
  refine ⟨_, rfl, a, ns, rfl, sq hS, fun ns' p hp hs np => ?_⟩
  refine ⟨p, _, rfl, .inl (.inl upd_same), fun r nr => ?_⟩
  have s1 := same_new np (.lst (ns'.map V.int))
  refine q _ r (s1.trans (same_new nr _)) (s1.free nr) ?_
  show upd _ _ _ _ = _
  rw [upd_same, ← List.map_reverse]
  have e : ns'.reverse = fall ns := fall_eq ((List.reverse_perm ns').trans hp) (List.pairwise_reverse.mpr (hs.imp fun h => h))
  rw [e]

end

section
variable {P : Program} {w : World} {K : PySem.W.Frag} {mg : Str → Option Value} {base : Heap}
theorem sc_law_turned : FnScope ["piles", "pile"] ["piles"] (defScope s_law_turned) := ⟨rfl, rfl, rfl, by decide +kernel, rfl, by decide +kernel, by decide +kernel⟩
def sp_law_turned : Sp := fun vs H Q _ => ∃ (a : Addr) (ns : List Int), vs = [.ref a] ∧ IL H a ns ∧ ns.length ≤ 1000 ∧ NL Q H (fall (down1 ns ++ [(ns.length : Int)]))
theorem ok_law_turned (T : Txt K mg) : Cal P w K mg base CX0 2 "_law_turned" ["piles"] sp_law_turned := by
  have C_law_fallen := ok_law_fallen (P := P) (w := w) (base := base) T
  refine cal_mk T.d_law_turned sc_law_turned ?_ (fun _ _ _ _ _ _ us hl => match us, hl with | [_], _ => rfl) (fun f cdv A outer s H vs Q E hr h => ?_)
  · intro vs H Q E h
    obtain ⟨a, ns, rfl, _⟩ := h
    rfl
  obtain ⟨a, ns, rfl, hS, hl, q⟩ := h
  refine ⟨_, (pss_one (ps_ret (pe_callF C_law_fallen (hr.mono (by decide)) (pa_cons (pe_op op_cat (pe_lc (own := [("pile", 1)]) (g := gName 1) rfl sc_law_turned.nd (pi_list (pv 0)) (blkOk_by (own := [("pile", 1)]) (N := ["piles", "pile"]) (sc := defScope s_law_turned) (by decide +kernel)) (fun _ _ _ _ _ => pg_name (i := 1) sc_law_turned.nd rfl (Or.inl rfl)) (fun _ _ _ _ _ => (pts_one (pt_cmpR op_gt (pv 1) pe_int (nomark _)))) (fun _ _ _ _ _ => (pe_op op_sub (pv 1) pe_int))) (pe_lst (pa_cons (pe_callB call_len_seq (by rfl) T.m_len PySem.boot_len (pa_cons (pv 0) pa_nil)) pa_nil))) pa_nil)))), ?_⟩
  -- the comprehension
  refine ⟨_, rfl, a, rfl, ⟨_, sq hS⟩, fun D nD => lc_list (K := K) (a := a) (xs := ns.map V.int) (fun i H' => Same H H' ∧ H' D = some (.lst ((down1 (ns.take i)).map V.int))) ?_ ?_ ?_ ?_⟩
  · exact ⟨same_new nD _, upd_same⟩
  · exact fun i H' _ h => sq (h.1 _ _ hS)
  · intro i x H' hx h
    obtain ⟨z, hz, rfl⟩ := get_int hx
    obtain ⟨sm, eD⟩ := h
    refine ⟨rfl, .int z, rfl, _, _, rfl, rfl, _, rfl, ?_⟩
    have et : ns.take (i + 1) = ns.take i ++ [z] := by
      rw [List.take_add_one, hz] <;> rfl
    refine ite2 (fun c => ?_) (fun c => ?_)
    · have c' : z > 1 := of_decide_eq_true c
      refine ⟨.int z, rfl, _, _, rfl, rfl, _, eD, ?_, ?_, ?_⟩
      · rw [List.length_map]
        have := down1_length (ns.take i)
        rw [List.length_take] at this
        exact smallL (by omega)
      · exact same_mut sm nD _
      · rw [upd_same, et]
        have : down1 (ns.take i ++ [z]) = down1 (ns.take i) ++ [z - 1] := by
          unfold down1
          rw [List.filter_append, List.map_append]
          congr 1
          rw [List.filter_cons, if_pos (decide_eq_true c')] <;> rfl
        rw [this, List.map_append] <;> rfl
    · have c' : ¬ z > 1 := fun h => c (decide_eq_true h)
      refine ⟨sm, ?_⟩
      rw [et]
      have : down1 (ns.take i ++ [z]) = down1 (ns.take i) := by
        unfold down1
        rw [List.filter_append, List.map_append, List.filter_cons, if_neg (by simp only [decide_eq_true_eq]; exact c')]
        simp
      rw [this]
      exact eD
  · intro H1 h
    obtain ⟨sm, eD⟩ := h
    rw [List.length_map, List.take_length] at eD
    refine ⟨_, rfl, a, _, rfl, .inl (sq (sm _ _ hS)), (by show 1 ≤ sizeLine; decide), fun c nc => ?_⟩
    have nDc : D ≠ c := ne_of_none eD nc
    refine ⟨D, c, _, _, rfl, rfl, by rw [upd_ne nDc]; exact eD, upd_same, ?_, fun e ne => ?_⟩
    · rw [List.length_map]
      have := down1_length ns
      exact small (by show (down1 ns).length + 1 ≤ _; omega)
    · have s2 : Same H (upd (upd H1 c (.lst [.int ((ns.map V.int).length : Int)])) e (.lst ((down1 ns).map V.int ++ [.int ((ns.map V.int).length : Int)]))) := (sm.trans (same_new nc _)).trans (same_new ne _)
      refine ⟨e, down1 ns ++ [(ns.length : Int)], rfl, ?_, fun H' p s3 np ep => q H' p (s2.trans s3) (s2.free np) ep⟩
      show _ = _
      rw [upd_same, List.map_append, List.length_map] <;> rfl

end

section
variable {P : Program} {w : World} {K : PySem.W.Frag} {mg : Str → Option Value} {base : Heap}
theorem sc_law_stair : FnScope ["coins", "stair"] ["coins"] (defScope s_law_stair) := ⟨rfl, rfl, rfl, by decide +kernel, rfl, by decide +kernel, by decide +kernel⟩
def sp_law_stair : Sp := fun vs H Q _ => ∃ n : Nat, vs = [.int n] ∧ 1 ≤ n ∧ n ≤ 100000 ∧ Q (.int (stair n)) H
theorem ok_law_stair (T : Txt K mg) : Cal P w K mg base CX0 1 "_law_stair" ["coins"] sp_law_stair := by
  refine cal_mk T.d_law_stair sc_law_stair ?_ (fun _ _ _ _ _ _ us hl => match us, hl with | [_], _ => rfl) (fun f cdv A outer s H vs Q E hr h => ?_)
  · intro vs H Q E h
    obtain ⟨n, rfl, _⟩ := h
    rfl
  obtain ⟨n, rfl, h1, h2, q⟩ := h
  refine ⟨_, (pss_cons (ps_set (i := 1) sc_law_stair.nd rfl (Or.inl rfl) pe_int)
      (pss_cons (ps_while PassesOwn.never (pt_cmpR op_lt (pe_op op_mul (pv 1) (pe_op op_add (pv 1) pe_int)) (pe_op op_mul pe_int (pv 0)) (nomark _))
      (pss_one (ps_set (i := 1) sc_law_stair.nd rfl (Or.inl rfl) (pe_op op_add (pv 1) pe_int))))
      (pss_one (ps_ret (pv 1))))), ?_⟩
  refine ⟨fun m σ H' => ∃ s : Nat, σ = [some (.int n), some (.int s)] ∧ H' = H ∧ m = 2 * n + 2 - s ∧ 1 ≤ s ∧ (s - 1) * s < 2 * n, ⟨_, 1, rfl, rfl, rfl, Nat.le_refl _, by omega⟩, fun m σ H' hW => ?_⟩
  obtain ⟨s, rfl, rfl, rfl, g1, g2⟩ := hW
  have g3 : s ≤ 2 * n + 1 := by
    have := Nat.mul_le_mul_left (s - 1) g1
    omega
  refine ⟨_, rfl, _, rfl, _, _, rfl, rfl, _, _, rfl, rfl, .inl ⟨by omega, by omega⟩, _, rfl, _, _, rfl, rfl, .inl ⟨by decide, by decide⟩, _, _, rfl, rfl, _, rfl, ite2 (fun c => ?_) (fun c => ?_)⟩
  · have c' : (s : Int) * ((s : Int) + 1) < 2 * (n : Int) := of_decide_eq_true c
    have c2 : s * (s + 1) < 2 * n := by exact_mod_cast c'
    refine ⟨fun σ' H2 => ∃ s' : Nat, s' = s + 1 ∧ σ' = [some (.int n), some (.int s')] ∧ H2 = H', fun σ' H2 h => ?_, ?_⟩
    · obtain ⟨s', rfl, e1, e2⟩ := h
      exact ⟨2 * n + 2 - (s + 1), by omega, s + 1, e1, e2, rfl, by omega, by rw [Nat.add_sub_cancel]; exact c2⟩
    · exact ⟨_, rfl, _, _, rfl, rfl, s + 1, rfl, rfl, rfl⟩
  · have c' : ¬ (s : Int) * ((s : Int) + 1) < 2 * (n : Int) := fun h => c (decide_eq_true h)
    have c2 : 2 * n ≤ s * (s + 1) := by
      have : ¬ s * (s + 1) < 2 * n := fun h => c' (by exact_mod_cast h)
      omega
    rw [← stair_uniq h1 g1 g2 c2] at q
    exact ⟨_, rfl, q⟩

end

section
variable {P : Program} {w : World} {K : PySem.W.Frag} {mg : Str → Option Value} {base : Heap}
theorem sc_law_by_marks : FnScope ["marks", "piles", "k", "pile"] ["marks"] (defScope s_law_by_marks) := ⟨rfl, rfl, rfl, by decide +kernel, rfl, by decide +kernel, by decide +kernel⟩
def sp_law_by_marks : Sp := fun vs H Q _ => ∃ (a : Addr) (ms : List Int), vs = [.ref a] ∧ IL H a ms ∧ ms.length ≤ 1000 ∧ NL Q H (ofMarks ms)
theorem ok_law_by_marks (T : Txt K mg) : Cal P w K mg base CX0 1 "_law_by_marks" ["marks"] sp_law_by_marks := by
  refine cal_mk T.d_law_by_marks sc_law_by_marks ?_ (fun _ _ _ _ _ _ us hl => match us, hl with | [_], _ => rfl) (fun f cdv A outer s H vs Q E hr h => ?_)
  · intro vs H Q E h
    obtain ⟨a, ms, rfl, _⟩ := h
    rfl
  obtain ⟨a, ms, rfl, hS, hl, q⟩ := h
  refine ⟨_, (pss_cons (ps_setLc (i := 1) (own := [("k", 2)]) (g := gName 2) rfl sc_law_by_marks.nd rfl rfl (sw_true rfl rfl rfl (by decide +kernel)) (pi_range1 (by rfl) T.m_range (pa_cons (pe_callB call_len_seq (by rfl) T.m_len PySem.boot_len (pa_cons (pv 0) pa_nil)) pa_nil)) (blkOk_by (own := [("k", 2)]) (N := ["marks", "piles", "k", "pile"]) (sc := defScope s_law_by_marks) (by decide +kernel)) (fun _ _ _ _ _ => pg_name (i := 2) sc_law_by_marks.nd rfl (Or.inl rfl)) (fun _ _ _ _ _ => pts_nil) (fun _ _ _ _ _ => (pe_op op_add (pe_op op_sub (pe_op op_sub (pe_callB (call_len_seqK K) (by rfl) T.m_len PySem.boot_len (pa_cons (pv 0) pa_nil)) pe_int) (pv 2)) (pe_ix (ix_listK K) (pv 0) (pv 2) (fun _ _ => rfl)))))
      (pss_one (ps_ret (pe_lc (own := [("pile", 3)]) (g := gName 3) rfl sc_law_by_marks.nd (pi_list (pv 1)) (blkOk_by (own := [("pile", 3)]) (N := ["marks", "piles", "k", "pile"]) (sc := defScope s_law_by_marks) (by decide +kernel)) (fun _ _ _ _ _ => pg_name (i := 3) sc_law_by_marks.nd rfl (Or.inl rfl)) (fun _ _ _ _ _ => (pts_one (pt_cmpR op_gt (pv 3) pe_int (nomark _)))) (fun _ _ _ _ _ => (pv 3)))))), ?_⟩
  refine ⟨_, rfl, a, _, rfl, .inl (sq hS), _, rfl, by rw [nlen]; omega, by rw [nlen]; omega, fun D nD => lc_range (lo := 0) (n := ((ms.map V.int).length : Int).toNat) (fun i H' => Same H H' ∧ IL H' D ((mk ms).take i)) ⟨same_new nD _, upd_same⟩ ?_ ?_⟩
  · intro i H' hi h
    obtain ⟨sm, eD⟩ := h
    rw [nlen] at hi
    have hi : i < ms.length := by omega
    refine ⟨rfl, _, rfl, a, _, rfl, .inl (sq (sm _ _ hS)), _, _, rfl, rfl, _, rfl, _, _, rfl, rfl, _, rfl, _, rfl, a, _, _, .int ms[i], rfl, rfl, sq (sm _ _ hS), at_of (j := i) (by omega) (int_get (List.getElem?_eq_getElem hi)), _, _, rfl, rfl, _, eD, ?_, same_mut sm nD _, ?_⟩
    · rw [nlen, List.length_take, mk_length]
      exact smallL (by omega)
    · have g := mk_get (List.getElem?_eq_getElem hi)
      show upd _ _ _ _ = _
      rw [upd_same, take_snoc g, List.map_append, nlen]
      congr 4
      simp
  · intro H1 h
    obtain ⟨sm, eD⟩ := h
    rw [nlen, Int.toNat_natCast, ← mk_length, List.take_length] at eD
    refine ⟨_, rfl, D, rfl, ⟨_, sq eD⟩, fun G nG => lc_list (K := K) (a := D) (xs := (mk ms).map V.int) (fun i H' => Same H1 H' ∧ IL H' G (((mk ms).take i).filter fun z => decide (z > 0))) ⟨same_new nG _, upd_same⟩ (fun i H' _ h => sq (h.1 _ _ eD)) ?_ ?_⟩
    · intro i x H' hx h
      obtain ⟨z, hz, rfl⟩ := get_int hx
      obtain ⟨sm2, eG⟩ := h
      refine ⟨rfl, _, rfl, _, _, rfl, rfl, _, rfl, ?_⟩
      rw [take_snoc hz, List.filter_append]
      refine ite2 (fun c => ?_) (fun c => ?_)
      · have c' : z > 0 := of_decide_eq_true c
        refine ⟨_, rfl, _, eG, ?_, same_mut sm2 nG _, ?_⟩
        · rw [nlen]
          have := List.length_filter_le (fun z => decide (z > 0)) ((mk ms).take i)
          rw [List.length_take, mk_length] at this
          exact smallL (by omega)
        · show upd _ _ _ _ = _
          rw [upd_same, List.map_append, List.filter_cons, if_pos (decide_eq_true c')] <;> rfl
      · have c' : ¬ z > 0 := fun h => c (decide_eq_true h)
        refine ⟨sm2, ?_⟩
        rw [List.filter_cons, if_neg (by simp only [decide_eq_true_eq]; exact c'), List.filter_nil, List.append_nil]
        exact eG
    · intro H2 h
      obtain ⟨sm2, eG⟩ := h
      rw [nlen, List.take_length] at eG
      exact q H2 G (sm.trans sm2) (sm.free nG) eG

end

section
variable {P : Program} {w : World} {K : PySem.W.Frag} {mg : Str → Option Value} {base : Heap}
theorem sc_law_drawn_marks : FnScope ["script", "k", "coins", "stair", "ones", "step", "marks", "j"] ["script", "k", "coins"] (defScope s_law_drawn_marks) := ⟨rfl, rfl, rfl, by decide +kernel, rfl, by decide +kernel, by decide +kernel⟩
theorem bits_sum_le {ms : List Int} (h : Bits ms) : 0 ≤ ms.sum := by
  induction ms with
  | nil => exact Int.le_refl 0
  | cons x r ih =>
    have := h x (List.mem_cons_self ..)
    have := ih fun z hz => h z (List.mem_cons_of_mem _ hz)
    rw [List.sum_cons]
    omega
theorem ins_facts {l : List Int} {j : Nat} {x : Int} : (∀ z, z ∈ l.take j ++ [x] ++ l.drop j ↔ z = x ∨ z ∈ l) ∧ (l.take j ++ [x] ++ l.drop j).sum = x + l.sum ∧ (l.take j ++ [x] ++ l.drop j).length = l.length + 1 := by
  have p : (l.take j ++ [x] ++ l.drop j).Perm (x :: l) := by
    have h := (List.perm_middle (a := x) (l₁ := l.take j) (l₂ := l.drop j))
    rw [List.take_append_drop] at h
    rw [List.append_assoc]
    exact h
  exact ⟨fun z => by rw [p.mem_iff, List.mem_cons], by rw [perm_sum p, List.sum_cons], p.length_eq⟩
def sp_law_drawn_marks (K : PySem.W.Frag) : Sp := fun vs H Q _ => ∃ (a : Addr) (ns : List Int) (k : Int) (n : Nat), vs = [.ref a, .int k, .int n] ∧ SL K H a ns ∧ 0 ≤ k ∧ 1 ≤ n ∧ n ≤ 100 ∧
  ∀ ms : List Int, Bits ms → ms.length = stair n → ms.sum = (restOf n : Int) → NL Q H ms
theorem ok_law_drawn_marks (T : Txt K mg) : Cal P w K mg base CX0 2 "_law_drawn_marks" ["script", "k", "coins"] (sp_law_drawn_marks K) := by
  have C_law_cell := ok_law_cell (P := P) (w := w) (base := base) T
  have C_law_next := ok_law_next (P := P) (w := w) (base := base) T
  have C_law_stair := ok_law_stair (P := P) (w := w) (base := base) T
  refine cal_mk T.d_law_drawn_marks sc_law_drawn_marks ?_ (fun _ _ _ _ _ _ us hl => match us, hl with | [_, _, _], _ => rfl) (fun f cdv A outer s H vs Q E hr h => ?_)
  · intro vs H Q E h
    obtain ⟨a, ns, k, n, rfl, _⟩ := h
    rfl
  obtain ⟨a, ns, k, n, rfl, hS, h0, h1, h2, q⟩ := h
  refine ⟨_, (pss_cons (ps_set (i := 3) sc_law_drawn_marks.nd rfl (Or.inl rfl) (pe_callF C_law_stair (hr.mono (by decide)) (pa_cons (pv 2) pa_nil)))
      (pss_cons (ps_set (i := 4) sc_law_drawn_marks.nd rfl (Or.inl rfl) (pe_op op_sub (pv 2) (pe_op op_fdiv (pe_op op_mul (pv 3) (pe_op op_sub (pv 3) pe_int)) pe_int)))
      (pss_cons (ps_set (i := 5) sc_law_drawn_marks.nd rfl (Or.inl rfl) (pe_callF C_law_next (hr.mono (by decide)) (pa_cons (pe_op op_add (pe_op op_mod (pe_op op_mul (pe_callF C_law_cell (hr.mono (by decide)) (pa_cons (pv 0) (pa_cons (pv 1) pa_nil))) pe_int) pe_int) pe_int) pa_nil)))
      (pss_cons (ps_set (i := 6) sc_law_drawn_marks.nd rfl (Or.inl rfl) (pe_lst pa_nil))
      (pss_cons (ps_for PassesOwn.never rfl (pi_range1 (by rfl) T.m_range (pa_cons (pv 3) pa_nil)) (pg_name (i := 7) sc_law_drawn_marks.nd rfl (Or.inl rfl))
      (pss_cons (ps_set (i := 5) sc_law_drawn_marks.nd rfl (Or.inl rfl) (pe_callF C_law_next (hr.mono (by decide)) (pa_cons (pv 5) pa_nil)))
      (pss_one (ps_expr (pe_bm PySem.F.plainAttrs_list PySem.F.slot_list_insert PySem.F.type_list_insert mt_insert (pv 6) (pa_cons (pe_op op_mod (pe_op op_fdiv (pv 5) pe_int) (pe_op op_add (pv 7) pe_int)) (pa_cons (pe_callTy (T := "int") call_int1 (by rfl) T.m_int (by decide +kernel) (pa_cons (pe_cmpR op_lt (pv 7) (pv 4) (nomark _)) pa_nil)) pa_nil)))))))
      (pss_one (ps_ret (pv 6)))))))), ?_⟩
  obtain ⟨r1, r2, r3⟩ := rest_spec h1
  have hs := stair_le h1 (b := 14) (by omega) (by omega)
  have hs1 := (stair_spec h1).1
  generalize hst : stair n = S at *
  generalize hro : restOf n = R at *
  refine ⟨_, rfl, n, rfl, h1, by omega, ?_⟩
  rw [hst]
  have e1 : (n : Int) - (S : Int) * ((S : Int) - 1) / 2 = (R : Int) := by
    have : (S : Int) * ((S : Int) - 1) = ((S * (S - 1) : Nat) : Int) := by
      rw [Int.natCast_mul]
      congr 1
      omega
    rw [this]
    omega
  refine ⟨_, rfl, _, rfl, _, rfl, _, _, rfl, rfl, _, _, rfl, rfl, .inl ⟨by omega, by omega⟩, _, _, rfl, rfl, ⟨by decide, by decide⟩, _, _, rfl, rfl, ?_⟩
  refine ⟨_, rfl, _, rfl, a, ns, k, rfl, hS, h0, fun z1 => ⟨_, _, rfl, rfl, .inr ⟨by decide, by decide⟩, _, _, rfl, rfl, (by show (0 : Int) < 2147483647; decide), _, _, rfl, rfl, _, rfl, fun z2 => ?_⟩⟩
  refine ⟨Nat.zero_le _, fun M nM => ?_⟩
  refine ⟨_, rfl, _, rfl, by omega, by omega, for_range (lo := 0) (n := (S : Int).toNat) (fun i σ H' => ∃ (st y : Option V) (ms : List Int), (∃ z, st = some (.int z)) ∧ σ = [some (.ref a), some (.int k), some (.int n), some (.int S), some (.int ((n : Int) - (S : Int) * ((S : Int) - 1) / 2)), st, some (.ref M), y] ∧
    Same H H' ∧ IL H' M ms ∧ Bits ms ∧ ms.length = i ∧ ms.sum = ((min i R : Nat) : Int)) ⟨_, none, [], ⟨z2, rfl⟩, rfl, same_new nM _, upd_same, (fun m hm => by cases hm), rfl, by rw [Nat.zero_min] <;> rfl⟩ ?_ ?_⟩
  · intro i σ H' hi h
    obtain ⟨_, y, ms, ⟨z, rfl⟩, rfl, sm, eM, hb, hlen, hsum⟩ := h
    refine ⟨_, rfl, z, rfl, fun z3 => ?_⟩
    refine ⟨_, rfl, Or.inl ⟨rfl, _, sq eM⟩, _, rfl, _, _, rfl, rfl, ⟨by decide, by decide⟩, _, rfl, _, _, rfl, rfl, _, _, rfl, rfl, (by show (0 : Int) < 0 + (i : Int) + 1; omega), _, rfl, _, rfl, _, _, rfl, rfl, Or.inr ⟨_, rfl, ?_⟩⟩
    have hmod := Int.emod_nonneg (z3 / 64) (show (0 : Int) + (i : Int) + 1 ≠ 0 by omega)
    have hmod2 := Int.emod_lt_of_pos (z3 / 64) (show (0 : Int) < 0 + (i : Int) + 1 by omega)
    generalize hJ : (z3 / 64) % ((0 : Int) + (i : Int) + 1) = J at hmod hmod2
    generalize hbit : (if decide ((0 : Int) + (i : Int) < (n : Int) - (S : Int) * ((S : Int) - 1) / 2) = true then (1 : Int) else 0) = B
    have hB : (i < R ∧ B = 1) ∨ (R ≤ i ∧ B = 0) := by
      by_cases c : i < R
      · rw [e1, if_pos (decide_eq_true (by omega))] at hbit
        exact .inl ⟨c, hbit.symm⟩
      · rw [e1, if_neg (fun h => by have := of_decide_eq_true h; omega)] at hbit
        exact .inr ⟨by omega, hbit.symm⟩
    refine ⟨M, ms.map V.int, J, .int B, rfl, by rw [← hJ, ← hbit] <;> rfl, eM, by rw [nlen]; exact smallL (by omega), hmod, by omega, ?_⟩
    obtain ⟨f1, f2, f3⟩ := ins_facts (l := ms) (j := J.toNat) (x := B)
    refine ⟨_, _, ms.take J.toNat ++ [B] ++ ms.drop J.toNat, ⟨z3, rfl⟩, rfl, same_mut sm nM _, ?_, fun m hm => ?_, by omega, ?_⟩
    · show upd _ _ _ _ = _
      rw [upd_same, List.map_append, List.map_append, List.map_take, List.map_drop] <;> rfl
    · rcases (f1 m).mp hm with e | e
      · omega
      · exact hb m e
    · rw [f2, hsum]
      omega
  · intro σ H' h
    obtain ⟨_, y, ms, ⟨z, rfl⟩, rfl, sm, eM, hb, hlen, hsum⟩ := h
    refine ⟨_, rfl, q ms hb (by omega) (by rw [hsum]; omega) H' M sm nM eM⟩

end

section
variable {P : Program} {w : World} {K : PySem.W.Frag} {mg : Str → Option Value} {base : Heap}
theorem sc_law_elder : FnScope ["piles", "number", "many", "some", "at", "rest", "pile", "k"] ["piles", "number"] (defScope s_law_elder) := ⟨rfl, rfl, rfl, by decide +kernel, rfl, by decide +kernel, by decide +kernel⟩
def sp_law_elder (K : PySem.W.Frag) : Sp := fun vs H Q _ => ∃ (a : Addr) (ns : List Int) (z n : Int), vs = [.ref a, .int z] ∧ IL H a ns ∧ IsSet n ns ∧ n ≤ 100 ∧
  ∀ H' p ms, Same H H' → IL H' p ms → IsSet n ms → Q (.ref p) H'
theorem ok_law_elder (T : Txt K mg) : Cal P w K mg base CX0 1 "_law_elder" ["piles", "number"] (sp_law_elder K) := by
  refine cal_mk T.d_law_elder sc_law_elder ?_ (fun _ _ _ _ _ _ us hl => match us, hl with | [_, _], _ => rfl) (fun f cdv A outer s H vs Q E hr h => ?_)
  · intro vs H Q E h
    obtain ⟨a, ns, z, n, rfl, _⟩ := h
    rfl
  obtain ⟨a, ns, z, n, rfl, hS, hset, hn, q⟩ := h
  have hlen := hset.len
  refine ⟨_, (pss_cons (ps_set (i := 2) sc_law_elder.nd rfl (Or.inr rfl) (pe_callB call_len_seq (by rfl) T.m_len PySem.boot_len (pa_cons (pv 0) pa_nil)))
      (pss_cons (ps_setLc (i := 3) (own := [("at", 4)]) (g := gName 4) rfl sc_law_elder.nd rfl rfl (sw_true rfl rfl rfl (by decide +kernel)) (pi_range1 (by rfl) T.m_range (pa_cons (pv 2) pa_nil)) (blkOk_by (own := [("at", 4)]) (N := ["piles", "number", "many", "some", "at", "rest", "pile", "k"]) (sc := defScope s_law_elder) (by decide +kernel)) (fun _ _ _ _ _ => pg_name (i := 4) sc_law_elder.nd rfl (Or.inl rfl)) (fun _ _ _ _ _ => (pts_one (pt_cmpR op_ge (pe_ix (ix_listK K) (pv 0) (pv 4) (fun _ _ => rfl)) (pe_op op_sub (pv 2) pe_int) (nomark _)))) (fun _ _ _ _ _ => (pv 4)))
      (pss_cons (ps_if (pt_cmpR op_eq (pe_callB call_len_seq (by rfl) T.m_len PySem.boot_len (pa_cons (pv 3) pa_nil)) pe_int (nomark _))
      (pss_one (ps_ret (pv 0))) pss_nil)
      (pss_cons (ps_set (i := 4) sc_law_elder.nd rfl (Or.inl rfl) (pe_ix ix_list (pv 3) (pe_op op_mod (pv 1) (pe_callB call_len_seq (by rfl) T.m_len PySem.boot_len (pa_cons (pv 3) pa_nil))) (fun _ _ => rfl)))
      (pss_cons (ps_setLc (i := 5) (own := [("pile", 6)]) (g := gName 6) rfl sc_law_elder.nd rfl rfl (sw_true rfl rfl rfl (by decide +kernel)) (pi_list (pe_op op_cat (pe_slice sl_list (pv 0) po_none (po_some (pv 4))) (pe_slice sl_list (pv 0) (po_some (pe_op op_add (pv 4) pe_int)) po_none))) (blkOk_by (own := [("pile", 6)]) (N := ["piles", "number", "many", "some", "at", "rest", "pile", "k"]) (sc := defScope s_law_elder) (by decide +kernel)) (fun _ _ _ _ _ => pg_name (i := 6) sc_law_elder.nd rfl (Or.inl rfl)) (fun _ _ _ _ _ => pts_nil) (fun _ _ _ _ _ => (pe_op op_add (pv 6) pe_int)))
      (pss_one (ps_ret (pe_op op_cat (pv 5) (pe_lc (own := [("k", 7)]) (g := gName 7) rfl sc_law_elder.nd (pi_range1 (by rfl) T.m_range (pa_cons (pe_op op_sub (pe_ix ix_list (pv 0) (pv 4) (fun _ _ => rfl)) (pe_callB call_len_seq (by rfl) T.m_len PySem.boot_len (pa_cons (pv 5) pa_nil))) pa_nil)) (blkOk_by (own := [("k", 7)]) (N := ["piles", "number", "many", "some", "at", "rest", "pile", "k"]) (sc := defScope s_law_elder) (by decide +kernel)) (fun _ _ _ _ _ => pg_name (i := 7) sc_law_elder.nd rfl (Or.inl rfl)) (fun _ _ _ _ _ => pts_nil) (fun _ _ _ _ _ => pe_int)))))))))), ?_⟩
  refine ⟨_, rfl, a, _, rfl, .inl (sq hS), ?_⟩
  rw [nlen]
  -- some
  refine ⟨_, rfl, _, rfl, by omega, by omega, fun D nD => lc_range (lo := 0) (n := (ns.length : Int).toNat) (fun i H' => Same H H' ∧ ∃ is : List Int, IL H' D is ∧ is.length ≤ i ∧ ∀ x ∈ is, ∃ (j : Nat) (p : Int), x = j ∧ ns[j]? = some p ∧ p ≥ (ns.length : Int) - 1)
    ⟨same_new nD _, [], upd_same, Nat.le_refl _, fun x hx => by cases hx⟩ ?_ ?_⟩
  · intro i H' hi h
    obtain ⟨sm, is, eD, hi2, hall⟩ := h
    have hi : i < ns.length := by omega
    refine ⟨rfl, _, rfl, _, rfl, a, _, _, .int ns[i], rfl, rfl, sq (sm _ _ hS), at_of (j := i) (by omega) (int_get (List.getElem?_eq_getElem hi)), _, rfl, _, _, rfl, rfl, _, _, rfl, rfl, _, rfl, ite2 (fun c => ?_) (fun c => ?_)⟩
    · have c' : (ns.length : Int) - 1 ≤ ns[i] := of_decide_eq_true c
      refine ⟨_, rfl, _, eD, by rw [nlen]; exact smallL (by omega), same_mut sm nD _, is ++ [(i : Int)], ?_, by rw [List.length_append, List.length_singleton]; omega, fun x hx => ?_⟩
      · show upd _ _ _ _ = _
        rw [upd_same, List.map_append, Int.zero_add] <;> rfl
      · rcases List.mem_append.mp hx with hx | hx
        · exact hall x hx
        · exact ⟨i, ns[i], List.mem_singleton.mp hx, List.getElem?_eq_getElem hi, c'⟩
    · exact ⟨sm, is, eD, by omega, hall⟩
  · intro H1 h
    obtain ⟨sm, is, eD, hi2, hall⟩ := h
    -- if len(some) == 0
    refine ⟨_, rfl, D, _, rfl, .inl (sq eD), rfl, _, rfl, ?_⟩
    rw [nlen]
    refine ite2 (fun c => ?_) (fun c => ?_)
    · exact ⟨_, rfl, q H1 a ns sm (sm _ _ hS) hset⟩
    · have hpos : 0 < is.length := by
        rcases Nat.eq_zero_or_pos is.length with e | e
        · exact absurd (decide_eq_true (by rw [e] <;> rfl)) c
        · exact e
      have hm1 := Int.emod_nonneg z (show (is.length : Int) ≠ 0 by omega)
      have hm2 := Int.emod_lt_of_pos z (show (0 : Int) < (is.length : Int) by omega)
      obtain ⟨J, hJ⟩ : ∃ J : Nat, z % (is.length : Int) = J := ⟨(z % (is.length : Int)).toNat, by omega⟩
      have hJl : J < is.length := by omega
      obtain ⟨j, p, ej, hp, hb⟩ := hall is[J] (List.getElem_mem hJl)
      have hjl : j < ns.length := (List.getElem?_eq_some_iff.mp hp).1
      refine ⟨_, rfl, _, rfl, _, rfl, D, _, rfl, .inl (sq eD), _, _, rfl, rfl, (by rw [nlen]; show (0 : Int) < _; omega), D, _, _, .int is[J], rfl, rfl, sq eD, at_of (j := J) (by rw [nlen]; exact hJ) (int_get (List.getElem?_eq_getElem hJl)), ?_⟩
      rw [ej]
      -- rest
      have hA1 : SqL K H1 a (ns.map V.int) := sq (sm _ _ hS)
      refine ⟨_, rfl, _, rfl, _, rfl, a, _, rfl, hA1, fun p1 n1 => ?_⟩
      rw [cut_to _ (by rw [nlen]; omega)]
      have sm1 := same_new n1 (.lst ((ns.map V.int).take j))
      refine ⟨_, rfl, _, rfl, _, _, rfl, rfl, (j : Int) + 1, rfl, a, _, rfl, sm1.seq hA1, fun p2 n2 => ?_⟩
      rw [show (j : Int) + 1 = ((j + 1 : Nat) : Int) by omega, cut_from _ (by rw [nlen]; omega)]
      have sm2 := same_new n2 (.lst ((ns.map V.int).drop (j + 1)))
      obtain ⟨s1, s2⟩ := take_drop_sum hp
      refine ⟨p1, p2, _, _, rfl, rfl, sm2 _ _ upd_same, upd_same, by rw [List.length_take, List.length_drop, nlen]; exact small (by omega), fun p3 n3 => ?_⟩
      have sm3 := same_new n3 (.lst ((ns.map V.int).take j ++ (ns.map V.int).drop (j + 1)))
      have e3 : IL (upd (upd (upd H1 p1 (.lst ((ns.map V.int).take j))) p2 (.lst ((ns.map V.int).drop (j + 1)))) p3 (.lst ((ns.map V.int).take j ++ (ns.map V.int).drop (j + 1)))) p3 (ns.take j ++ ns.drop (j + 1)) := by
        show upd _ _ _ _ = _
        rw [upd_same, List.map_append, List.map_take, List.map_drop]
      have smA := (sm1.trans sm2).trans sm3
      generalize (upd (upd (upd H1 p1 (.lst ((ns.map V.int).take j))) p2 (.lst ((ns.map V.int).drop (j + 1)))) p3 (.lst ((ns.map V.int).take j ++ (ns.map V.int).drop (j + 1)))) = H2 at *
      generalize hrs : ns.take j ++ ns.drop (j + 1) = rs at *
      refine ⟨p3, rfl, ⟨_, sq e3⟩, fun G nG => lc_list (K := K) (a := p3) (xs := rs.map V.int) (fun i H' => Same H2 H' ∧ IL H' G ((rs.take i).map (· + 1))) ⟨same_new nG _, upd_same⟩ (fun i H' _ h => sq (h.1 _ _ e3)) ?_ ?_⟩
      · intro i x H' hx h
        obtain ⟨y, hy, rfl⟩ := get_int hx
        obtain ⟨sm4, eG⟩ := h
        have hil : i < rs.length := (List.getElem?_eq_some_iff.mp hy).1
        refine ⟨rfl, _, rfl, _, _, rfl, rfl, _, eG, ?_, same_mut sm4 nG _, ?_⟩
        · rw [nlen, List.length_map, List.length_take]
          exact smallL (by omega)
        · show upd _ _ _ _ = _
          rw [upd_same, take_snoc hy, List.map_append, List.map_append] <;> rfl
      · intro H3 h
        obtain ⟨sm4, eG⟩ := h
        rw [nlen, List.take_length] at eG
        have smB := sm.trans (smA.trans sm4)
        have hA3 : SqL K H3 a (ns.map V.int) := sq (smB _ _ hS)
        have hpn : 1 ≤ p := hset.1.pos p (List.mem_of_getElem? hp)
        have hpn2 := hset.le (List.mem_of_getElem? hp)
        have hcnt : ((rs.map (· + 1)).map V.int).length = rs.length := by rw [nlen, List.length_map]
        -- rest + [1 for k in ..]
        refine ⟨_, rfl, _, rfl, _, rfl, a, _, _, .int p, rfl, rfl, hA3, at_of (j := j) rfl (int_get hp), _, rfl, G, _, rfl, .inl (sq eG), _, _, rfl, rfl, _, rfl, ?_⟩
        rw [hcnt]
        refine ⟨by omega, by omega, fun N nN => lc_range (lo := 0) (n := (p - (rs.length : Int)).toNat) (fun i H' => Same H3 H' ∧ IL H' N (List.replicate i 1)) ⟨same_new nN _, upd_same⟩ ?_ ?_⟩
        · intro i H' hi h
          obtain ⟨sm5, eN⟩ := h
          refine ⟨rfl, _, eN, by rw [nlen, List.length_replicate]; exact smallL (by omega), same_mut sm5 nN _, ?_⟩
          show upd _ _ _ _ = _
          rw [upd_same, List.replicate_succ', List.map_append] <;> rfl
        · intro H4 h
          obtain ⟨sm5, eN⟩ := h
          refine ⟨G, N, _, _, rfl, rfl, sm5 _ _ eG, eN, by rw [nlen, nlen, List.length_map, List.length_replicate]; exact small (by omega), fun r nr => ?_⟩
          refine q _ r (elderAt ns j p) ((smB.trans sm5).trans (same_new nr _)) ?_ (elder_set hset hp hb)
          show upd _ _ _ _ = _
          rw [upd_same, ← List.map_append]
          unfold elderAt
          rw [hrs, show (rs.length : Int) = (ns.length : Int) - 1 by omega]

end

section
variable {P : Program} {w : World} {K : PySem.W.Frag} {mg : Str → Option Value} {base : Heap}
theorem sc_law_drawn_piles : FnScope ["script", "k", "coins", "cap", "step", "piles", "left"] ["script", "k", "coins", "cap"] (defScope s_law_drawn_piles) := ⟨rfl, rfl, rfl, by decide +kernel, rfl, by decide +kernel, by decide +kernel⟩
def sp_law_drawn_piles (K : PySem.W.Frag) : Sp := fun vs H Q _ => ∃ (a : Addr) (ns : List Int) (k n c : Int), vs = [.ref a, .int k, .int n, .int c] ∧ SL K H a ns ∧ 0 ≤ k ∧ 1 ≤ n ∧ n ≤ 100 ∧ 1 ≤ c ∧
  ∀ ms : List Int, IsSet n ms → NL Q H ms
theorem ok_law_drawn_piles (T : Txt K mg) : Cal P w K mg base CX0 2 "_law_drawn_piles" ["script", "k", "coins", "cap"] (sp_law_drawn_piles K) := by
  have C_law_cell := ok_law_cell (P := P) (w := w) (base := base) T
  have C_law_fallen := ok_law_fallen (P := P) (w := w) (base := base) T
  have C_law_next := ok_law_next (P := P) (w := w) (base := base) T
  refine cal_mk T.d_law_drawn_piles sc_law_drawn_piles ?_ (fun _ _ _ _ _ _ us hl => match us, hl with | [_, _, _, _], _ => rfl) (fun f cdv A outer s H vs Q E hr h => ?_)
  · intro vs H Q E h
    obtain ⟨a, ns, k, n, c, rfl, _⟩ := h
    rfl
  obtain ⟨a, ns, k, n, c, rfl, hS, h0, h1, h2, h3, q⟩ := h
  refine ⟨_, (pss_cons (ps_set (i := 4) sc_law_drawn_piles.nd rfl (Or.inl rfl) (pe_callF C_law_next (hr.mono (by decide)) (pa_cons (pe_op op_add (pe_op op_mod (pe_op op_mul (pe_callF C_law_cell (hr.mono (by decide)) (pa_cons (pv 0) (pa_cons (pv 1) pa_nil))) pe_int) pe_int) pe_int) pa_nil)))
      (pss_cons (ps_set (i := 5) sc_law_drawn_piles.nd rfl (Or.inl rfl) (pe_lst pa_nil))
      (pss_cons (ps_set (i := 6) sc_law_drawn_piles.nd rfl (Or.inl rfl) (pv 2))
      (pss_cons (ps_while PassesOwn.never (pt_cmpR op_gt (pv 6) pe_int (nomark _))
      (pss_cons (ps_set (i := 4) sc_law_drawn_piles.nd rfl (Or.inl rfl) (pe_callF C_law_next (hr.mono (by decide)) (pa_cons (pv 4) pa_nil)))
      (pss_cons (ps_expr (pe_bm PySem.F.plainAttrs_list PySem.F.slot_list_append PySem.F.type_list_append mt_append (pv 5) (pa_cons (pe_op op_add pe_int (pe_op op_mod (pe_op op_fdiv (pv 4) pe_int) (pe_callB (call_min2 rfl) (by rfl) T.m_min (by decide +kernel) (pa_cons (pv 6) (pa_cons (pv 3) pa_nil))))) pa_nil)))
      (pss_one (ps_set (i := 6) sc_law_drawn_piles.nd rfl (Or.inl rfl) (pe_op op_sub (pv 6) (pe_ix ix_list (pv 5) (pe_un un_neg pe_int) (fun _ _ => rfl))))))))
      (pss_one (ps_ret (pe_callF C_law_fallen (hr.mono (by decide)) (pa_cons (pv 5) pa_nil)))))))), ?_⟩
  refine ⟨_, rfl, _, rfl, a, ns, k, rfl, hS, h0, fun z1 => ⟨_, _, rfl, rfl, .inr ⟨by decide, by decide⟩, _, _, rfl, rfl, (by show (0 : Int) < 2147483647; decide), _, _, rfl, rfl, _, rfl, fun z2 => ?_⟩⟩
  refine ⟨Nat.zero_le _, fun M nM => ?_⟩
  refine ⟨_, rfl, ?_⟩
  refine ⟨fun m σ H' => ∃ (z l : Int) (ms : List Int), σ = [some (.ref a), some (.int k), some (.int n), some (.int c), some (.int z), some (.ref M), some (.int l)] ∧ Same H H' ∧ IL H' M ms ∧ (∀ x ∈ ms, 1 ≤ x) ∧ 0 ≤ l ∧ ms.sum + l = n ∧ m = l.toNat,
    ⟨_, z2, n, [], rfl, same_new nM _, upd_same, (fun x hx => by cases hx), by omega, by show (0 : Int) + n = n; omega, rfl⟩, fun m σ H' hW => ?_⟩
  obtain ⟨z, l, ms, rfl, sm, eM, hp, hl, hsum, rfl⟩ := hW
  have hlen := len_le_sum hp
  refine ⟨_, rfl, _, _, rfl, rfl, _, rfl, ite2 (fun t => ?_) (fun t => ?_)⟩
  · have t' : 0 < l := of_decide_eq_true t
    refine ⟨fun σ' H2 => ∃ (z l' : Int) (ms : List Int), σ' = [some (.ref a), some (.int k), some (.int n), some (.int c), some (.int z), some (.ref M), some (.int l')] ∧ Same H H2 ∧ IL H2 M ms ∧ (∀ x ∈ ms, 1 ≤ x) ∧ 0 ≤ l' ∧ ms.sum + l' = n ∧ l' < l, fun σ' H2 h => ?_, ?_⟩
    · obtain ⟨z, l', ms, e, a1, a2, a3, a4, a5, a6⟩ := h
      exact ⟨l'.toNat, by omega, z, l', ms, e, a1, a2, a3, a4, a5, rfl⟩
    · refine ⟨_, rfl, z, rfl, fun z3 => ?_⟩
      have hmin : (1 : Int) ≤ (if c < l then c else l) ∧ (if c < l then c else l) ≤ l := by
        by_cases h : c < l
        · rw [if_pos h]
          omega
        · rw [if_neg h]
          omega
      generalize hg : (if c < l then c else l) = g at hmin
      have hm1 := Int.emod_nonneg (z3 / 64) (show g ≠ 0 by omega)
      have hm2 := Int.emod_lt_of_pos (z3 / 64) (show 0 < g by omega)
      refine ⟨_, rfl, Or.inl ⟨rfl, _, sq eM⟩, _, rfl, _, _, rfl, rfl, ⟨by decide, by decide⟩, _, rfl, _, rfl, l, c, rfl, ?_⟩
      rw [hg]
      refine ⟨_, _, rfl, rfl, (by show (0 : Int) < g; omega), _, _, rfl, rfl, M, ms.map V.int, _, rfl, rfl, eM, by rw [nlen]; exact smallL (by omega), ?_⟩
      refine ⟨_, rfl, _, rfl, _, rfl, M, _, _, .int (1 + (z3 / 64) % g), rfl, rfl, sq upd_same, atI_last _ _, _, _, rfl, rfl, ?_⟩
      refine ⟨z3, l - (1 + (z3 / 64) % g), ms ++ [1 + (z3 / 64) % g], rfl, same_mut sm nM _, ?_, fun y hy => ?_, by omega, ?_, by omega⟩
      · show upd _ _ _ _ = _
        rw [upd_same, List.map_append] <;> rfl
      · rcases List.mem_append.mp hy with hy | hy
        · exact hp y hy
        · rw [List.mem_singleton.mp hy]
          omega
      · rw [List.sum_append, List.sum_cons, List.sum_nil]
        omega
  · have t' : ¬ 0 < l := fun h => t (decide_eq_true h)
    have hs : ms.sum = n := by omega
    refine ⟨_, rfl, M, ms, rfl, eM, fun H2 p s2 np ep => q (fall ms) ⟨⟨fun x hx => hp x ((fall_perm ms).mem_iff.mp hx), fall_falls ms, fun e => ?_⟩, by rw [fall_sum]; exact hs⟩ H2 p (sm.trans s2) (sm.free np) ep⟩
    have := fall_sum ms
    rw [e, hs] at this
    have : (0 : Int) = n := this
    omega

end

section
variable {P : Program} {w : World} {K : PySem.W.Frag} {mg : Str → Option Value} {base : Heap}
theorem sc_law_setting : FnScope ["script", "k", "coins", "way", "cap", "j", "piles", "step", "turn"] ["script", "k", "coins"] (defScope s_law_setting) := ⟨rfl, rfl, rfl, by decide +kernel, rfl, by decide +kernel, by decide +kernel⟩
def sp_law_setting (K : PySem.W.Frag) : Sp := fun vs H Q _ => ∃ (a : Addr) (ns : List Int) (k : Int) (n : Nat), vs = [.ref a, .int k, .int n] ∧ SL K H a ns ∧ 0 ≤ k ∧ 1 ≤ n ∧ n ≤ 100 ∧
  ∀ ms : List Int, IsSet n ms → ∀ H' p, Same H H' → IL H' p ms → Q (.ref p) H'
theorem ones_set {n : Nat} (h : 1 ≤ n) : IsSet n (List.replicate n 1) := by
  refine ⟨⟨fun x hx => by rw [List.eq_of_mem_replicate hx]; exact Int.le_refl 1, List.pairwise_replicate.mpr (.inr (Int.le_refl 1)), fun e => ?_⟩, sum_replicate n⟩
  have := congrArg List.length e
  rw [List.length_replicate, List.length_nil] at this
  omega
theorem one_set {n : Nat} (h : 1 ≤ n) : IsSet n [(n : Int)] :=
  ⟨⟨fun x hx => by rw [List.mem_singleton.mp hx]; omega, List.pairwise_singleton _ _, List.cons_ne_nil _ _⟩, by rw [List.sum_cons, List.sum_nil]; omega⟩
theorem ok_law_setting (T : Txt K mg) : Cal P w K mg base CX0 3 "_law_setting" ["script", "k", "coins"] (sp_law_setting K) := by
  have C_law_by_marks := ok_law_by_marks (P := P) (w := w) (base := base) T
  have C_law_cell := ok_law_cell (P := P) (w := w) (base := base) T
  have C_law_drawn_marks := ok_law_drawn_marks (P := P) (w := w) (base := base) T
  have C_law_drawn_piles := ok_law_drawn_piles (P := P) (w := w) (base := base) T
  have C_law_elder := ok_law_elder (P := P) (w := w) (base := base) T
  have C_law_next := ok_law_next (P := P) (w := w) (base := base) T
  refine cal_mk T.d_law_setting sc_law_setting ?_ (fun _ _ _ _ _ _ us hl => match us, hl with | [_, _, _], _ => rfl) (fun f cdv A outer s H vs Q E hr h => ?_)
  · intro vs H Q E h
    obtain ⟨a, ns, k, n, rfl, _⟩ := h
    rfl
  obtain ⟨a, ns, k, n, rfl, hS, h0, h1, h2, q⟩ := h
  have hs := stair_le h1 (b := 14) (by omega) (by omega)
  refine ⟨_, (pss_cons (ps_set (i := 3) sc_law_setting.nd rfl (Or.inl rfl) (pe_op op_mod (pe_callF C_law_cell (hr.mono (by decide)) (pa_cons (pv 0) (pa_cons (pv 1) pa_nil))) pe_int))
      (pss_cons (ps_set (i := 4) sc_law_setting.nd rfl (Or.inl rfl) (pe_op op_add pe_int (pe_op op_mod (pe_callF C_law_cell (hr.mono (by decide)) (pa_cons (pv 0) (pa_cons (pe_op op_add (pv 1) pe_int) pa_nil))) (pv 2))))
      (pss_cons (ps_if (PW.pt (pw_or (pt_cmpR op_eq (pv 3) pe_int (nomark _)) (pw_or1 (pt_cmpR op_eq (pv 3) pe_int (nomark _)))))
      (pss_one (ps_ret (pe_callF C_law_drawn_piles (hr.mono (by decide)) (pa_cons (pv 0) (pa_cons (pe_op op_add (pv 1) pe_int) (pa_cons (pv 2) (pa_cons (pv 4) pa_nil))))))) pss_nil)
      (pss_cons (ps_if (pt_cmpR op_eq (pv 3) pe_int (nomark _))
      (pss_one (ps_ret (pe_ix ix_list (pe_lst (pa_cons (pe_lst (pa_cons (pv 2) pa_nil)) (pa_cons (pe_lc (own := [("j", 5)]) (g := gName 5) rfl sc_law_setting.nd (pi_range1 (by rfl) T.m_range (pa_cons (pv 2) pa_nil)) (blkOk_by (own := [("j", 5)]) (N := ["script", "k", "coins", "way", "cap", "j", "piles", "step", "turn"]) (sc := defScope s_law_setting) (by decide +kernel)) (fun _ _ _ _ _ => pg_name (i := 5) sc_law_setting.nd rfl (Or.inl rfl)) (fun _ _ _ _ _ => pts_nil) (fun _ _ _ _ _ => pe_int)) pa_nil))) (pe_op op_mod (pe_callF C_law_cell (hr.mono (by decide)) (pa_cons (pv 0) (pa_cons (pe_op op_add (pv 1) pe_int) pa_nil))) pe_int) (fun _ _ => rfl)))) pss_nil)
      (pss_cons (ps_set (i := 6) sc_law_setting.nd rfl (Or.inl rfl) (pe_callF C_law_by_marks (hr.mono (by decide)) (pa_cons (pe_callF C_law_drawn_marks (hr.mono (by decide)) (pa_cons (pv 0) (pa_cons (pe_op op_add (pv 1) pe_int) (pa_cons (pv 2) pa_nil)))) pa_nil)))
      (pss_cons (ps_set (i := 7) sc_law_setting.nd rfl (Or.inl rfl) (pe_callF C_law_next (hr.mono (by decide)) (pa_cons (pe_op op_add (pe_op op_mod (pe_op op_mul (pe_callF C_law_cell (hr.mono (by decide)) (pa_cons (pv 0) (pa_cons (pe_op op_add (pv 1) pe_int) pa_nil))) pe_int) pe_int) pe_int) pa_nil)))
      (pss_cons (ps_if (pt_cmpR op_gt (pv 3) pe_int (nomark _))
      (pss_one (ps_for PassesOwn.never rfl (pi_range1 (by rfl) T.m_range (pa_cons (pe_op op_mod (pe_callF C_law_cell (hr.mono (by decide)) (pa_cons (pv 0) (pa_cons (pe_op op_add (pv 1) pe_int) pa_nil))) pe_int) pa_nil)) (pg_name (i := 8) sc_law_setting.nd rfl (Or.inl rfl))
      (pss_cons (ps_set (i := 7) sc_law_setting.nd rfl (Or.inl rfl) (pe_callF C_law_next (hr.mono (by decide)) (pa_cons (pv 7) pa_nil)))
      (pss_one (ps_set (i := 6) sc_law_setting.nd rfl (Or.inl rfl) (pe_callF C_law_elder (hr.mono (by decide)) (pa_cons (pv 6) (pa_cons (pe_op op_fdiv (pv 7) pe_int) pa_nil)))))))) pss_nil)
      (pss_one (ps_ret (pv 6)))))))))), ?_⟩
  -- way, cap
  refine ⟨_, rfl, _, rfl, a, ns, k, rfl, hS, h0, fun z1 => ⟨_, _, rfl, rfl, (by show (0 : Int) < 6; decide), ?_⟩⟩
  refine ⟨_, rfl, _, rfl, _, _, rfl, rfl, a, ns, k + 1, rfl, hS, by omega, fun z2 => ⟨_, rfl, _, _, rfl, rfl, (by show (0 : Int) < (n : Int); omega), _, _, rfl, rfl, ?_⟩⟩
  have hc1 := Int.emod_nonneg z2 (show (n : Int) ≠ 0 by omega)
  -- way == 0 or way == 1
  refine ⟨_, rfl, rfl, _, rfl, ite2 (fun _ => ?w0) (fun _ => ⟨_, rfl, rfl, _, rfl, ite2 (fun _ => ?w1) (fun _ => ?_)⟩)⟩
  case' w0 => skip
  case' w1 => skip
  iterate 2
    · exact ⟨_, rfl, _, rfl, _, _, rfl, rfl, _, rfl, _, rfl, a, ns, k + 2, n, 1 + z2 % (n : Int), rfl, hS, by omega, by omega, by omega, by omega, fun ms hm H' p sm _ ep => q ms hm H' p sm ep⟩
  -- way == 2
  refine ⟨_, rfl, rfl, _, rfl, ite2 (fun _ => ?_) (fun _ => ?_)⟩
  · refine ⟨_, rfl, (by show 1 ≤ sizeLine; decide), fun p1 n1 => ?_⟩
    have sm1 := same_new n1 (.lst [.int n])
    refine ⟨_, rfl, n, rfl, by omega, by omega, fun D nD => lc_range (lo := 0) (n := (n : Int).toNat) (fun i H' => Same (upd H p1 (.lst [.int n])) H' ∧ IL H' D (List.replicate i 1)) ⟨same_new nD _, upd_same⟩ ?_ ?_⟩
    · intro i H' hi h
      obtain ⟨sm, eD⟩ := h
      refine ⟨rfl, _, eD, by rw [nlen, List.length_replicate]; exact smallL (by omega), same_mut sm nD _, ?_⟩
      show upd _ _ _ _ = _
      rw [upd_same, List.replicate_succ', List.map_append] <;> rfl
    · intro H1 h
      obtain ⟨sm, eD⟩ := h
      refine ⟨(by show 2 ≤ sizeLine; decide), fun p2 n2 => ?_⟩
      have smA := (sm1.trans sm).trans (same_new n2 (.lst [.ref p1, .ref D]))
      have e1 : IL (upd H1 p2 (.lst [.ref p1, .ref D])) p1 [(n : Int)] := same_new n2 _ _ _ (sm _ _ upd_same)
      have e2 : IL (upd H1 p2 (.lst [.ref p1, .ref D])) D (List.replicate (n : Int).toNat 1) := same_new n2 _ _ _ eD
      refine ⟨_, rfl, _, rfl, _, _, rfl, rfl, a, ns, k + 1, rfl, smA.seq hS, by omega, fun z3 => ⟨_, _, rfl, rfl, (by show (0 : Int) < 2; decide), ?_⟩⟩
      have hz := Int.emod_two_eq z3
      rcases hz with hz | hz
      · exact ⟨p2, _, _, .ref p1, rfl, rfl, sq upd_same, at_of (j := 0) hz rfl, q _ (one_set h1) _ _ smA e1⟩
      · exact ⟨p2, _, _, .ref D, rfl, rfl, sq upd_same, at_of (j := 1) hz rfl, q _ (by rw [Int.toNat_natCast]; exact ones_set h1) _ _ smA e2⟩
  · -- round ones and elders
    refine ⟨_, rfl, _, rfl, _, _, rfl, rfl, _, rfl, a, ns, k + 2, n, rfl, hS, by omega, h1, h2, fun ms hb hl hsum H1 p1 sm1 n1 e1 => ?_⟩
    refine ⟨p1, ms, rfl, e1, by omega, fun H2 p2 sm2 n2 e2 => ?_⟩
    have hset := ofMarks_set h1 hb hl hsum
    have smA := sm1.trans sm2
    refine ⟨_, rfl, _, rfl, _, _, rfl, rfl, a, ns, k + 3, rfl, smA.seq hS, by omega, fun z3 => ⟨_, _, rfl, rfl, .inr ⟨by decide, by decide⟩, _, _, rfl, rfl, (by show (0 : Int) < 2147483647; decide), _, _, rfl, rfl, _, rfl, fun z4 => ?_⟩⟩
    refine ⟨_, rfl, _, _, rfl, rfl, _, rfl, ite2 (fun _ => ?_) (fun _ => ?_)⟩
    · refine ⟨_, rfl, _, rfl, _, _, rfl, rfl, a, ns, k + 1, rfl, smA.seq hS, by omega, fun z5 => ⟨_, _, rfl, rfl, (by show (0 : Int) < 120; decide), ?_⟩⟩
      have hm1 := Int.emod_nonneg z5 (show (120 : Int) ≠ 0 by decide)
      have hm2 := Int.emod_lt_of_pos z5 (show (0 : Int) < 120 by decide)
      refine ⟨_, rfl, by omega, by omega, for_range (lo := 0) (n := (z5 % 120).toNat) (fun i σ H' => ∃ (p : Addr) (z : Int) (y : Option V) (ms : List Int), σ = [some (.ref a), some (.int k), some (.int n), some (.int (z1 % 6)), some (.int (1 + z2 % (n : Int))), none, some (.ref p), some (.int z), y] ∧ Same H H' ∧ IL H' p ms ∧ IsSet n ms)
        ⟨p2, z4, none, ofMarks ms, rfl, smA, e2, hset⟩ ?_ ?_⟩
      · intro i σ H' hi h
        obtain ⟨p, z, y, ms', rfl, sm, ep, hset⟩ := h
        refine ⟨_, rfl, z, rfl, fun z6 => ?_⟩
        exact ⟨_, rfl, _, rfl, _, _, rfl, rfl, ⟨by decide, by decide⟩, p, ms', z6 / 64, n, rfl, ep, hset, by omega, fun H3 p3 ms3 sm3 ep3 hset3 => ⟨p3, z6, _, ms3, rfl, sm.trans sm3, ep3, hset3⟩⟩
      · intro σ H' h
        obtain ⟨p, z, y, ms', rfl, sm, ep, hset⟩ := h
        exact ⟨_, rfl, q ms' hset H' p sm ep⟩
    · exact ⟨_, rfl, q _ hset H2 p2 smA e2⟩

end

section
variable {P : Program} {w : World} {K : PySem.W.Frag} {mg : Str → Option Value} {base : Heap}
theorem sc_law_ints : FnScope ["found", "due", "k"] ["found", "due"] (defScope s_law_ints) := ⟨rfl, rfl, rfl, by decide +kernel, rfl, by decide +kernel, by decide +kernel⟩
def sp_law_ints : Sp := fun vs H Q _ => ∃ (f d : Addr) (xs ns : List Int), vs = [.ref f, .ref d] ∧ IL H f xs ∧ IL H d ns ∧ ns.length ≤ 100000 ∧ Q (.bl (decide (xs = ns))) H
theorem ok_law_ints (T : Txt K mg) : Cal P w K mg base CX0 1 "_law_ints" ["found", "due"] sp_law_ints := by
  refine cal_mk T.d_law_ints sc_law_ints ?_ (fun _ _ _ _ _ _ us hl => match us, hl with | [_, _], _ => rfl) (fun f cdv A outer s H vs Q E hr h => ?_)
  · intro vs H Q E h
    obtain ⟨f, d, xs, ns, rfl, _⟩ := h
    rfl
  obtain ⟨f, d, xs, ns, rfl, hF, hD, hl, q⟩ := h
  refine ⟨_, (pss_cons (ps_if (PW.pt (pw_or (pt_not (pt_val (pe_callB call_isi (by rfl) T.m_isinstance (by decide +kernel) (pa_cons (pv 0) (pa_cons (pe_bltn (v := .ty "list") (by rfl) T.m_list (by decide +kernel) rfl) pa_nil))))) (pw_or1 (pt_cmpR op_ne (pe_callB call_len_seq (by rfl) T.m_len PySem.boot_len (pa_cons (pv 0) pa_nil)) (pe_callB call_len_seq (by rfl) T.m_len PySem.boot_len (pa_cons (pv 1) pa_nil)) (nomark _)))))
      (pss_one (ps_ret pe_bl)) pss_nil)
      (pss_cons (ps_for PassesOwn.never rfl (pi_range1 (by rfl) T.m_range (pa_cons (pe_callB call_len_seq (by rfl) T.m_len PySem.boot_len (pa_cons (pv 1) pa_nil)) pa_nil)) (pg_name (i := 2) sc_law_ints.nd rfl (Or.inl rfl))
      (pss_one (ps_if (PW.pt (pw_or (pt_not (pt_val (pe_callB call_isi (by rfl) T.m_isinstance (by decide +kernel) (pa_cons (pe_ix ix_list (pv 0) (pv 2) (fun _ _ => rfl)) (pa_cons (pe_bltn (v := .ty "int") (by rfl) T.m_int (by decide +kernel) rfl) pa_nil))))) (pw_or (pt_val (pe_callB call_isi (by rfl) T.m_isinstance (by decide +kernel) (pa_cons (pe_ix ix_list (pv 0) (pv 2) (fun _ _ => rfl)) (pa_cons (pe_bltn (v := .ty "bool") (by rfl) T.m_bool (by decide +kernel) rfl) pa_nil)))) (pw_or1 (pt_cmpR op_ne (pe_ix ix_list (pv 0) (pv 2) (fun _ _ => rfl)) (pe_ix ix_list (pv 1) (pv 2) (fun _ _ => rfl)) (nomark _))))))
      (pss_one (ps_ret pe_bl)) pss_nil)))
      (pss_one (ps_ret pe_bl)))), ?_⟩
  -- not a list, or of another length
  refine ⟨_, rfl, _, .ty "list", .type "list", .type "list", true, rfl, ClsV.ty _, .base (.lst hF), kit_ty (by decide +kernel), true, rfl, ?_⟩
  refine ⟨_, rfl, f, _, rfl, .inl (sq hF), _, rfl, d, _, rfl, .inl (sq hD), rfl, _, rfl, ?_⟩
  rw [nlen, nlen]
  refine ite2 (fun c => ?_) (fun c => ?_)
  · have c' : ¬ xs = ns := fun e => by
      rw [e] at c
      simp at c
    rw [decide_eq_false c'] at q
    exact q
  · have hlen : xs.length = ns.length := by
      have : ¬ ¬ (V.int (xs.length : Int) = V.int (ns.length : Int)) := fun h => c (by rw [decide_eq_false h] <;> rfl)
      have := V.int.inj (Decidable.not_not.mp this)
      omega
    refine ⟨_, rfl, d, _, rfl, .inl (sq hD), _, rfl, by rw [nlen]; omega, by rw [nlen]; omega, for_range (lo := 0) (n := ((ns.map V.int).length : Int).toNat) (fun i σ H' => ∃ y, σ = [some (.ref f), some (.ref d), y] ∧ H' = H ∧ xs.take i = ns.take i) ⟨none, rfl, rfl, rfl⟩ ?_ ?_⟩
    · intro i σ H' hi h
      obtain ⟨y, rfl, rfl, ht⟩ := h
      rw [nlen] at hi
      have hi : i < ns.length := by omega
      have gx : xs[i]? = some xs[i] := List.getElem?_eq_getElem (by omega)
      have gn : ns[i]? = some ns[i] := List.getElem?_eq_getElem hi
      have ax : atI (xs.map V.int) (0 + (i : Int)) = some (.int xs[i]) := at_of (j := i) (by omega) (int_get gx)
      have an : atI (ns.map V.int) (0 + (i : Int)) = some (.int ns[i]) := at_of (j := i) (by omega) (int_get gn)
      refine ⟨_, rfl, _, rfl, f, _, _, .int xs[i], rfl, rfl, sq hF, ax, .int xs[i], .ty "int", .type "int", .type "int", true, rfl, ClsV.ty _, .base (.int _), kit_ty (by decide +kernel), true, rfl, ?_⟩
      refine ⟨_, rfl, _, rfl, f, _, _, .int xs[i], rfl, rfl, sq hF, ax, .int xs[i], .ty "bool", .type "int", .type "bool", false, rfl, ClsV.ty _, .base (.int _), kit_ty (by decide +kernel), false, rfl, ?_⟩
      refine ⟨_, rfl, _, rfl, f, _, _, .int xs[i], rfl, rfl, sq hF, ax, _, rfl, _, rfl, d, _, _, .int ns[i], rfl, rfl, sq hD, an, rfl, _, rfl, ite2 (fun c => ?_) (fun c => ?_)⟩
      · have c' : ¬ xs = ns := fun e => by
          subst e
          simp at c
        rw [decide_eq_false c'] at q
        exact q
      · have e : xs[i] = ns[i] := by
          have : ¬ ¬ (V.int xs[i] = V.int ns[i]) := fun h => c (by rw [decide_eq_false h] <;> rfl)
          exact V.int.inj (Decidable.not_not.mp this)
        exact ⟨_, rfl, rfl, by rw [take_snoc gx, take_snoc gn, ht, e]⟩
    · intro σ H' h
      obtain ⟨y, rfl, rfl, ht⟩ := h
      rw [nlen, Int.toNat_natCast, ← hlen, List.take_length, hlen, List.take_length] at ht
      rw [decide_eq_true ht] at q
      exact q

end

section
variable {P : Program} {w : World} {K : PySem.W.Frag} {mg : Str → Option Value} {base : Heap}
theorem sc_law_good : FnScope ["piles", "k"] ["piles"] (defScope s_law_good) := ⟨rfl, rfl, rfl, by decide +kernel, rfl, by decide +kernel, by decide +kernel⟩
def sp_law_good : Sp := fun vs H Q _ => ∃ (a : Addr) (ns : List Int), vs = [.ref a] ∧ IL H a ns ∧ ns.length ≤ 1000 ∧ ∀ (b : Bool) (H' : Hp), (b = true ↔ Good ns ∧ ns.sum ≤ 100) → Same H H' → Q (.bl b) H'
theorem ok_law_good (T : Txt K mg) : Cal P w K mg base CX0 1 "_law_good" ["piles"] sp_law_good := by
  refine cal_mk T.d_law_good sc_law_good ?_ (fun _ _ _ _ _ _ us hl => match us, hl with | [_], _ => rfl) (fun f cdv A outer s H vs Q E hr h => ?_)
  · intro vs H Q E h
    obtain ⟨a, ns, rfl, _⟩ := h
    rfl
  obtain ⟨a, ns, rfl, hS, hl, q⟩ := h
  refine ⟨_, (pss_cons (ps_if (PW.pt (pw_or (pt_cmpR op_lt (pe_callB call_len_seq (by rfl) T.m_len PySem.boot_len (pa_cons (pv 0) pa_nil)) pe_int (nomark _)) (pw_or (pt_cmpR op_gt (pe_callB (cr_sum rfl) (by rfl) T.m_sum (by decide +kernel) (pa_cons (pv 0) pa_nil)) pe_int (nomark _)) (pw_or1 (pt_cmpR op_lt (pe_callB (cr_min rfl) (by rfl) T.m_min (by decide +kernel) (pa_cons (pv 0) pa_nil)) pe_int (nomark _))))))
      (pss_one (ps_ret pe_bl)) pss_nil)
      (pss_one (ps_ret (pe_cmpR op_eq (pe_callB call_len_seq (by rfl) T.m_len PySem.boot_len (pa_cons (pe_lc (own := [("k", 1)]) (g := gName 1) rfl sc_law_good.nd (pi_range2 (by rfl) T.m_range (pa_cons pe_int (pa_cons (pe_callB call_len_seq (by rfl) T.m_len PySem.boot_len (pa_cons (pv 0) pa_nil)) pa_nil))) (blkOk_by (own := [("k", 1)]) (N := ["piles", "k"]) (sc := defScope s_law_good) (by decide +kernel)) (fun _ _ _ _ _ => pg_name (i := 1) sc_law_good.nd rfl (Or.inl rfl)) (fun _ _ _ _ _ => (pts_one (pt_cmpR op_gt (pe_ix (ix_listK K) (pv 0) (pv 1) (fun _ _ => rfl)) (pe_ix (ix_listK K) (pv 0) (pe_op op_sub (pv 1) pe_int) (fun _ _ => rfl)) (nomark _)))) (fun _ _ _ _ _ => (pv 1))) pa_nil)) pe_int (nomark _))))), ?_⟩
  have no : (¬ (Good ns ∧ ns.sum ≤ 100)) → Q (.bl false) H := fun h => q false H ⟨fun z => (by cases z), fun z => absurd z h⟩ (Same.refl H)
  refine ⟨_, rfl, a, _, rfl, .inl (sq hS), _, _, rfl, rfl, _, rfl, ite2 (fun c => ?_) (fun c => ⟨_, rfl, a, ns, rfl, sq hS, _, _, rfl, rfl, _, rfl, ite2 (fun c2 => ?_) (fun c2 => ?_)⟩)⟩
  · refine no fun h => ?_
    have c' : ((ns.map V.int).length : Int) < 1 := of_decide_eq_true c
    rw [nlen] at c'
    have := List.length_pos_iff.mpr h.1.ne
    omega
  · refine no fun h => ?_
    have c' : (100 : Int) < ns.sum := of_decide_eq_true c2
    omega
  · have c1' : ¬ ((ns.map V.int).length : Int) < 1 := fun h => c (decide_eq_true h)
    have c2' : ¬ (100 : Int) < ns.sum := fun h => c2 (decide_eq_true h)
    rw [nlen] at c1'
    refine ⟨_, rfl, a, ns, rfl, sq hS, by omega, fun m hm hle => ⟨_, _, rfl, rfl, _, rfl, ite2 (fun c3 => ?_) (fun c3 => ?_)⟩⟩
    · refine no fun h => ?_
      have c3' : m < 1 := of_decide_eq_true c3
      have := h.1.pos m hm
      omega
    · have c3' : ¬ m < 1 := fun h => c3 (decide_eq_true h)
      refine ⟨_, rfl, a, _, rfl, .inl (sq hS), 1, ((ns.map V.int).length : Int), rfl, ⟨by decide, by decide, by rw [nlen]; omega, by rw [nlen]; omega⟩, fun D nD => lc_range (lo := 1) (n := (((ns.map V.int).length : Int) - 1).toNat)
        (fun i H' => Same H H' ∧ ∃ is : List Int, IL H' D is ∧ is.length ≤ i ∧ (is = [] ↔ ∀ j, j < i → ∀ x y, ns[j + 1]? = some x → ns[j]? = some y → x ≤ y)) ⟨same_new nD _, [], upd_same, Nat.le_refl _, fun _ j hj => by omega, fun _ => rfl⟩ ?_ ?_⟩
      · intro i H' hi h
        obtain ⟨sm, is, eD, hil, hiff⟩ := h
        rw [nlen] at hi
        have h1 : i + 1 < ns.length := by omega
        have g1 : ns[i + 1]? = some ns[i + 1] := List.getElem?_eq_getElem h1
        have g0 : ns[i]? = some (ns[i]'(by omega)) := List.getElem?_eq_getElem (by omega)
        refine ⟨rfl, _, rfl, _, rfl, a, _, _, .int ns[i + 1], rfl, rfl, sq (sm _ _ hS), at_of (j := i + 1) (by omega) (int_get g1), _, rfl, _, rfl, _, _, rfl, rfl, a, _, _, .int (ns[i]'(by omega)), rfl, rfl, sq (sm _ _ hS), at_of (j := i) (by omega) (int_get g0), _, _, rfl, rfl, _, rfl, ite2 (fun d => ?_) (fun d => ?_)⟩
        · have d' : ns[i]'(by omega) < ns[i + 1] := of_decide_eq_true d
          refine ⟨_, rfl, _, eD, by rw [nlen]; exact smallL (by omega), same_mut sm nD _, is ++ [1 + (i : Int)], ?_, by rw [List.length_append, List.length_singleton]; omega, ?_⟩
          · show upd _ _ _ _ = _
            rw [upd_same, List.map_append] <;> rfl
          · refine ⟨fun e => by simp at e, fun h => ?_⟩
            have := h i (by omega) _ _ g1 g0
            omega
        · have d' : ¬ ns[i]'(by omega) < ns[i + 1] := fun h => d (decide_eq_true h)
          refine ⟨sm, is, eD, by omega, hiff.trans ⟨fun h j hj x y hx hy => ?_, fun h j hj => h j (by omega)⟩⟩
          rcases Nat.lt_or_ge j i with l | l
          · exact h j l x y hx hy
          · obtain rfl : j = i := by omega
            rw [g1] at hx
            rw [g0] at hy
            have e1 := Option.some.inj hx
            have e2 := Option.some.inj hy
            omega
      · intro H1 h
        obtain ⟨sm, is, eD, hil, hiff⟩ := h
        refine ⟨D, _, rfl, .inl (sq eD), rfl, q _ _ ?_ sm⟩
        rw [nlen] at hiff ⊢
        rw [decide_eq_true_iff]
        constructor
        · intro e
          have e0 : is = [] := List.eq_nil_of_length_eq_zero (by have := V.int.inj e; omega)
          have hf : Falls ns := falls_of_adj fun j x y hx hy => hiff.mp e0 j (by have := (List.getElem?_eq_some_iff.mp hx).1; omega) x y hx hy
          exact ⟨⟨fun x hx => by have := hle x hx; omega, hf, fun e => by rw [e] at c1'; exact c1' (by decide)⟩, by omega⟩
        · intro h
          have : is = [] := hiff.mpr fun j hj x y hx hy => by
            have hx' := List.getElem?_eq_some_iff.mp hx
            have hy' := List.getElem?_eq_some_iff.mp hy
            have := List.pairwise_iff_getElem.mp h.1.falls j (j + 1) hy'.1 hx'.1 (by omega)
            rw [hx'.2, hy'.2] at this
            exact this
          rw [this] <;> rfl

end

/-! ### the law -/
def spLaw (K : PySem.W.Frag) : Sp := fun vs H Q _ => ∃ (a : Addr) (ns : List Int), vs = [.ref a] ∧ SL K H a ns ∧ ns.length ≤ 63 ∧ ∀ H', Q (.bl true) H'
theorem nat_of {z : Int} {m : Int} (h : 0 < m) : ∃ n : Nat, 1 + z % m = (n : Int) ∧ 1 ≤ n ∧ (n : Int) ≤ m := by
  have h1 := Int.emod_nonneg z (show m ≠ 0 by omega)
  have h2 := Int.emod_lt_of_pos z h
  exact ⟨(1 + z % m).toNat, by omega, by omega, by omega⟩

section
variable {P : Program} {w : World} {K : PySem.W.Frag} {mg : Str → Option Value} {base : Heap}
theorem sc_law_due : FnScope ["text", "piles", "word", "sign"] ["text"] (defScope s_law_due) := ⟨rfl, rfl, rfl, by decide +kernel, rfl, by decide +kernel, by decide +kernel⟩
def sp_law_due : Sp := fun vs H Q _ => ∃ t : Str, vs = [.str t] ∧ t.length ≤ 900 ∧ (∀ ns, Writes t ns → NL Q H ns) ∧ ((¬ ∃ ns, Writes t ns) → ∀ H', Same H H' → Q .non H')
theorem ok_law_due (T : Txt K mg) : Cal P w K mg base CX0 2 "_law_due" ["text"] sp_law_due := by
  have C_law_good := ok_law_good (P := P) (w := w) (base := base) T
  refine cal_mk T.d_law_due sc_law_due ?_ (fun _ _ _ _ _ _ us hl => match us, hl with | [_], _ => rfl) (fun f cdv A outer s H vs Q E hr h => ?_)
  · intro vs H Q E h
    obtain ⟨t, rfl, _⟩ := h
    rfl
  obtain ⟨t, rfl, hl, q, e⟩ := h
  obtain ⟨hw, hn⟩ := split_bound t
  refine ⟨_, (pss_cons (ps_set (i := 1) sc_law_due.nd rfl (Or.inl rfl) (pe_lst pa_nil))
      (pss_cons (ps_for PassesOwn.never rfl (pi_list (pe_split (pv 0) pe_str)) (pg_name (i := 2) sc_law_due.nd rfl (Or.inl rfl))
      (pss_cons (ps_if (PW.pt (pw_or (pt_cmpR op_lt (pe_callB call_len_str (by rfl) T.m_len PySem.boot_len (pa_cons (pv 2) pa_nil)) pe_int (nomark _)) (pw_or (pt_cmpR op_gt (pe_callB call_len_str (by rfl) T.m_len PySem.boot_len (pa_cons (pv 2) pa_nil)) pe_int (nomark _)) (pw_or1 (pt_cmpR op_gt (pe_callB call_len_seq (by rfl) T.m_len PySem.boot_len (pa_cons (pe_lc (own := [("sign", 3)]) (g := gName 3) rfl sc_law_due.nd (pi_str (pv 2)) (blkOk_by (own := [("sign", 3)]) (N := ["text", "piles", "word", "sign"]) (sc := defScope s_law_due) (by decide +kernel)) (fun _ _ _ _ _ => pg_name (i := 3) sc_law_due.nd rfl (Or.inl rfl)) (fun _ _ _ _ _ => (pts_one (pt_cmpR op_notIn_sign (pv 3) pe_str rfl))) (fun _ _ _ _ _ => (pv 3))) pa_nil)) pe_int (nomark _))))))
      (pss_one (ps_ret pe_non)) pss_nil)
      (pss_cons (ps_if (pt_cmpR op_eq (pe_ix ix_str (pv 2) pe_int (fun _ _ => rfl)) pe_str (nomark _))
      (pss_one (ps_ret pe_non)) pss_nil)
      (pss_one (ps_expr (pe_bm PySem.F.plainAttrs_list PySem.F.slot_list_append PySem.F.type_list_append mt_append (pv 1) (pa_cons (pe_callTy (T := "int") call_int_str (by rfl) T.m_int (by decide +kernel) (pa_cons (pv 2) pa_nil)) pa_nil)))))))
      (pss_cons (ps_if (pt_not (pt_val (pe_callF C_law_good (hr.mono (by decide)) (pa_cons (pv 1) pa_nil))))
      (pss_one (ps_ret pe_non)) pss_nil)
      (pss_one (ps_ret (pv 1)))))), ?_⟩
  refine ⟨Nat.zero_le _, fun D nD => ?_⟩
  have s0 := same_new nD (.lst ([] : List V))
  have eD : (upd H D (.lst ([] : List V))) D = some (.lst []) := upd_same
  generalize upd H D (.lst ([] : List V)) = H0 at *
  refine ⟨_, rfl, ⟨_, rfl⟩, _, _, rfl, rfl, by decide +kernel, small (by omega), fun S nS => ?_⟩
  have s1 := s0.trans (same_new nS (.lst ((Txt.split t blank).map V.str)))
  have eS : (upd H0 S (.lst ((Txt.split t blank).map V.str))) S = some (.lst ((Txt.split t blank).map V.str)) := upd_same
  have eD1 := same_new nS (.lst ((Txt.split t blank).map V.str)) _ _ eD
  have nDS : D ≠ S := ne_of_none eD nS
  have hno : ∀ w ∈ Txt.split t blank, ¬ wOk 30 w → ¬ ∃ ns, Writes t ns := fun w hw h => Writes.not30 hw h
  have hyes : ∀ ns, Writes t ns ↔ ns = (Txt.split t blank).map wVal ∧ (∀ w ∈ Txt.split t blank, wOk 30 w) ∧ Good ns ∧ ns.sum ≤ 100 := fun ns => ⟨fun h => ⟨h.are, h.ok, h.good, h.sum⟩, fun h => ⟨h.1, h.2.1, h.2.2.1, h.2.2.2⟩⟩
  have eb : Txt.split t (Str.ofString " ") = Txt.split t blank := rfl
  rw [eb]
  generalize Txt.split t blank = ws at *
  generalize upd H0 S (.lst (ws.map V.str)) = H1 at *
  refine ⟨S, rfl, ⟨_, sq eS⟩, for_list (K := K) (a := S) (xs := ws.map V.str) (fun i σ H' => ∃ y2 : Option V, σ = [some (.str t), some (.ref D), y2, none] ∧ Same H H' ∧ H' S = some (.lst (ws.map V.str)) ∧ IL H' D ((ws.take i).map wVal) ∧ ∀ w ∈ ws.take i, wOk 30 w) ⟨none, rfl, s1, eS, eD1, fun w hw => by cases hw⟩ (fun i σ H' _ h => by obtain ⟨_, _, _, e, _⟩ := h; exact sq e) ?_ ?_⟩
  · intro i x σ H' hx h
    obtain ⟨y2, rfl, sm, eS, eD, hok⟩ := h
    rw [List.getElem?_map] at hx
    cases hz : ws[i]? with
    | none =>
      rw [hz] at hx
      cases hx
    | some wd =>
      rw [hz] at hx
      obtain rfl := Option.some.inj hx
      have hm := List.mem_of_getElem? hz
      have hil := (List.getElem?_eq_some_iff.mp hz).1
      have hwl := hw wd hm
      have hsz : wd.length ≤ sizeLine := small (by omega)
      have no := fun h => e (hno wd hm h)
      refine ⟨_, rfl, _, rfl, hsz, _, _, rfl, rfl, _, rfl, ite2 (fun c => no (fun o => ?_) H' sm) (fun c1 => ?_)⟩
      · have := of_decide_eq_true c
        have := o.l1
        omega
      have c1' : ¬ ((wd.length : Nat) : Int) < 1 := fun h => c1 (decide_eq_true h)
      refine ⟨_, rfl, _, rfl, hsz, _, _, rfl, rfl, _, rfl, ite2 (fun c => no (fun o => ?_) H' sm) (fun c2 => ?_)⟩
      · have := of_decide_eq_true c
        have := o.l2
        omega
      have c2' : ¬ (30 : Int) < ((wd.length : Nat) : Int) := fun h => c2 (decide_eq_true h)
      refine ⟨_, rfl, _, rfl, fun G nG => lc_it walk_str (fun j H2 => Same H' H2 ∧ ∃ xs : List V, H2 G = some (.lst xs) ∧ xs.length ≤ j ∧ (xs.length = 0 ↔ ∀ k c, k < j → wd.cps.toList[k]? = some c → 48 ≤ c ∧ c ≤ 57)) ⟨same_new nG _, [], upd_same, Nat.zero_le _, fun _ k c h => absurd h (Nat.not_lt_zero _), fun _ => rfl⟩ (fun _ _ _ _ => trivial) ?_ ?_⟩
      · intro j x H2 H3 hj h hy
        obtain ⟨sm2, xs, eG, hxl, hxs⟩ := h
        obtain ⟨rfl, c, hc, rfl⟩ := hy
        have hc' : wd.cps.toList[j]? = some c := by rw [Array.getElem?_toList]; exact hc
        have hjl := (List.getElem?_eq_some_iff.mp hc').1
        rw [len_list] at hjl
        refine ⟨rfl, _, rfl, c, _, rfl, rfl, _, rfl, ite2 (fun d => ?_) (fun d => ?_)⟩
        · have hm : ¬ (48 ≤ c ∧ c ≤ 57) := fun h => by
            rw [show decide (c ∈ (Str.ofString "0123456789").cps.toList) = true from decide_eq_true (fig_iff.mpr h)] at d
            cases d
          refine ⟨_, rfl, xs, eG, smallL (by omega), same_mut sm2 nG _, _, upd_same, by rw [List.length_append, List.length_singleton]; omega, ?_⟩
          rw [List.length_append, List.length_singleton]
          exact ⟨fun h => by omega, fun h => absurd (h j c (Nat.lt_succ_self _) hc') hm⟩
        · have hm : 48 ≤ c ∧ c ≤ 57 := by
            refine fig_iff.mp ?_
            by_cases hm : c ∈ figs.cps.toList
            · exact hm
            · exact absurd (by rw [show decide (c ∈ (Str.ofString "0123456789").cps.toList) = false from decide_eq_false hm]; rfl) d
          refine ⟨sm2, xs, eG, by omega, ?_⟩
          rw [hxs]
          constructor
          · intro h k c2 hk h2
            rcases Nat.lt_or_ge k j with l | l
            · exact h k c2 l h2
            · obtain rfl : k = j := by omega
              rw [hc'] at h2
              obtain rfl := Option.some.inj h2
              exact hm
          · intro h k c2 hk h2
            exact h k c2 (by omega) h2
      · intro H2 h
        obtain ⟨sm2, xs, eG, hxl, hxs⟩ := h
        refine ⟨G, xs, rfl, .inl (sq eG), _, _, rfl, rfl, _, rfl, ite2 (fun c => no (fun o => ?_) H2 (sm.trans sm2)) (fun c3 => ?_)⟩
        · have c' : (0 : Int) < (xs.length : Int) := of_decide_eq_true c
          have := hxs.mpr fun k c2 _ h2 => o.fig c2 (List.mem_of_getElem? h2)
          omega
        have c3' : ¬ (0 : Int) < (xs.length : Int) := fun h => c3 (decide_eq_true h)
        have hfig := hxs.mp (by omega)
        have htl := len_list wd
        obtain ⟨c0, hc0⟩ : ∃ c, wd.cps.toList[0]? = some c := ⟨_, List.getElem?_eq_getElem (by omega)⟩
        refine ⟨_, rfl, _, _, c0, rfl, rfl, hsz, atI_zero hc0, rfl, _, rfl, ite2 (fun c => no (fun o => ?_) H2 (sm.trans sm2)) (fun c4 => ?_)⟩
        · have e1 : c0 = 48 := sign_eq.mp (of_decide_eq_true c)
          rw [e1] at hc0
          exact o.nz hc0
        have hnz : wd.cps.toList[0]? ≠ some 48 := fun h => c4 (by
          rw [hc0] at h
          exact decide_eq_true (sign_eq.mpr (Option.some.inj h)))
        have ok : wOk 30 wd := ⟨by omega, by omega, fun c hc => by
          obtain ⟨k, hk⟩ := List.getElem?_of_mem hc
          have hk1 := (List.getElem?_eq_some_iff.mp hk).1
          rw [Array.length_toList] at hk1
          exact hfig k c hk1 hk, hnz⟩
        have eD2 := sm2 _ _ eD
        have eS2 := sm2 _ _ eS
        refine ⟨_, rfl, .inl ⟨rfl, _, sq eD2⟩, _, rfl, wd, wVal wd, rfl, ok.read (by omega), by omega, D, _, _, rfl, rfl, eD2, by rw [nlen, List.length_map, List.length_take]; exact smallL (by omega), ?_⟩
        refine ⟨_, rfl, same_mut (sm.trans sm2) nD _, by rw [upd_ne nDS.symm]; exact eS2, ?_, fun w hw => ?_⟩
        · show upd _ _ _ _ = _
          rw [upd_same, take_snoc hz, List.map_append, List.map_append] <;> rfl
        · rw [take_snoc hz] at hw
          rcases List.mem_append.mp hw with hw | hw
          · exact hok w hw
          · rw [List.mem_singleton.mp hw]
            exact ok
  · intro σ H2 h
    obtain ⟨y2, rfl, sm, eS, eD, hok⟩ := h
    rw [List.length_map, List.take_length] at eD hok
    refine ⟨_, rfl, D, ws.map wVal, rfl, eD, by rw [List.length_map]; omega, fun b H3 hb sm3 => ?_⟩
    cases b with
    | true =>
      obtain ⟨hg, hs⟩ := hb.mp rfl
      exact ⟨true, rfl, _, rfl, q _ ((hyes _).mpr ⟨rfl, hok, hg, hs⟩) H3 D (sm.trans sm3) nD (sm3 _ _ eD)⟩
    | false =>
      refine ⟨false, rfl, e (fun ⟨ns, hns⟩ => ?_) H3 (sm.trans sm3)⟩
      obtain ⟨rfl, _, hg, hs⟩ := (hyes ns).mp hns
      have := hb.mpr ⟨hg, hs⟩
      cases this

end

section
variable {P : Program} {w : World} {K : PySem.W.Frag} {mg : Str → Option Value} {base : Heap}
theorem sc_law_sign : FnScope ["cell", "way", "some"] ["cell", "way"] (defScope s_law_sign) := ⟨rfl, rfl, rfl, by decide +kernel, rfl, by decide +kernel, by decide +kernel⟩
theorem atI_ex {z : Str} {i : Int} (h0 : 0 ≤ i) (h1 : i < (z.length : Int)) : ∃ c, atI z.cps.toList i = some c := by
  obtain ⟨j, rfl⟩ : ∃ j : Nat, i = j := ⟨i.toNat, by omega⟩
  have hj : j < z.cps.toList.length := by
    rw [len_list]
    omega
  exact ⟨_, atI_nat (List.getElem?_eq_getElem hj)⟩
def sp_law_sign : Sp := fun vs H Q _ => ∃ c y : Int, vs = [.int c, .int y] ∧ ∀ s : Str, s.length = 1 → Q (.str s) H
theorem ok_law_sign (T : Txt K mg) : Cal P w K mg base CX0 1 "_law_sign" ["cell", "way"] sp_law_sign := by
  refine cal_mk T.d_law_sign sc_law_sign ?_ (fun _ _ _ _ _ _ us hl => match us, hl with | [_, _], _ => rfl) (fun f cdv A outer s H vs Q E hr h => ?_)
  · intro vs H Q E h
    obtain ⟨c, y, rfl, _⟩ := h
    rfl
  obtain ⟨c, y, rfl, q⟩ := h
  refine ⟨_, (pss_cons (ps_if (pt_cmpR op_eq (pe_op op_mod (pv 1) pe_int) pe_int (nomark _))
      (pss_one (ps_ret (pe_ix ix_str pe_str (pe_op op_mod (pv 0) pe_int) (fun _ _ => rfl)))) pss_nil)
      (pss_cons (ps_set (i := 2) sc_law_sign.nd rfl (Or.inl rfl) pe_str)
      (pss_cons (ps_set (i := 2) sc_law_sign.nd rfl (Or.inl rfl) (pe_op op_add_str (pv 2) pe_str))
      (pss_one (ps_ret (pe_ix ix_str (pv 2) (pe_op op_mod (pv 0) (pe_callB call_len_str (by rfl) T.m_len PySem.boot_len (pa_cons (pv 2) pa_nil))) (fun _ _ => rfl))))))), ?_⟩
  refine ⟨_, rfl, _, _, rfl, rfl, (by show (0 : Int) < 2; decide), rfl, _, rfl, ite2 (fun _ => ?_) (fun _ => ?_)⟩
  · have l16 : (Str.ofString "0123456789 +-_\t\n").length = 16 := by decide +kernel
    obtain ⟨d, hd⟩ := atI_ex (z := Str.ofString "0123456789 +-_\t\n") (Int.emod_nonneg c (show (16 : Int) ≠ 0 by decide)) (by rw [l16]; exact Int.emod_lt_of_pos c (by decide))
    exact ⟨_, rfl, _, _, rfl, rfl, (by show (0 : Int) < 16; decide), _, _, d, rfl, rfl, by rw [l16]; decide, hd, q _ rfl⟩
  · have hl : 0 < (Str.ofString " !\"#$&'()*+,-./0123456789:;<=>?@ABCDEFGHIJKLMNOPQRSTUVWXYZ[\\]^_" ++ Str.ofString "abcdefghijklmnopqrstuvwxyz{|}~").length ∧ (Str.ofString " !\"#$&'()*+,-./0123456789:;<=>?@ABCDEFGHIJKLMNOPQRSTUVWXYZ[\\]^_").length + (Str.ofString "abcdefghijklmnopqrstuvwxyz{|}~").length ≤ 1000 := by decide +kernel
    have ha := len_app (Str.ofString " !\"#$&'()*+,-./0123456789:;<=>?@ABCDEFGHIJKLMNOPQRSTUVWXYZ[\\]^_") (Str.ofString "abcdefghijklmnopqrstuvwxyz{|}~")
    refine ⟨_, rfl, _, _, rfl, rfl, small (by omega), ?_⟩
    generalize Str.ofString " !\"#$&'()*+,-./0123456789:;<=>?@ABCDEFGHIJKLMNOPQRSTUVWXYZ[\\]^_" ++ Str.ofString "abcdefghijklmnopqrstuvwxyz{|}~" = Z at *
    obtain ⟨d, hd⟩ := atI_ex (z := Z) (Int.emod_nonneg c (show (Z.length : Int) ≠ 0 by omega)) (Int.emod_lt_of_pos c (show (0 : Int) < (Z.length : Int) by omega))
    exact ⟨_, rfl, _, rfl, _, rfl, _, rfl, small (by omega), _, _, rfl, rfl, (by show (0 : Int) < (Z.length : Int); omega), _, _, d, rfl, rfl, small (by omega), hd, q _ rfl⟩

end

section
variable {P : Program} {w : World} {K : PySem.W.Frag} {mg : Str → Option Value} {base : Heap}
theorem sc_law_odd : FnScope ["cell", "some"] ["cell"] (defScope s_law_odd) := ⟨rfl, rfl, rfl, by decide +kernel, rfl, by decide +kernel, by decide +kernel⟩
def sp_law_odd : Sp := fun vs H Q _ => ∃ c : Int, vs = [.int c] ∧ ∀ (s : Str) (H' : Hp), s.length ≤ 400 → Same H H' → Q (.str s) H'
theorem ok_law_odd (T : Txt K mg) : Cal P w K mg base CX0 1 "_law_odd" ["cell"] sp_law_odd := by
  refine cal_mk T.d_law_odd sc_law_odd ?_ (fun _ _ _ _ _ _ us hl => match us, hl with | [_], _ => rfl) (fun f cdv A outer s H vs Q E hr h => ?_)
  · intro vs H Q E h
    obtain ⟨c, rfl, _⟩ := h
    rfl
  obtain ⟨c, rfl, q⟩ := h
  refine ⟨_, (pss_cons (ps_set (i := 1) sc_law_odd.nd rfl (Or.inl rfl) (pe_lst (pa_cons pe_str (pa_cons pe_str (pa_cons pe_str (pa_cons pe_str (pa_cons pe_str (pa_cons pe_str (pa_cons pe_str (pa_cons pe_str (pa_cons pe_str (pa_cons pe_str (pa_cons pe_str (pa_cons pe_str (pa_cons pe_str (pa_cons pe_str (pa_cons pe_str (pa_cons pe_str pa_nil))))))))))))))))))
      (pss_cons (ps_set (i := 1) sc_law_odd.nd rfl (Or.inl rfl) (pe_op op_cat (pv 1) (pe_lst (pa_cons pe_str (pa_cons pe_str (pa_cons pe_str (pa_cons pe_str (pa_cons pe_str (pa_cons pe_str (pa_cons (pe_op op_add_str pe_str (pe_op op_mulS pe_str pe_int)) (pa_cons (pe_op op_add_str pe_str (pe_op op_mulS pe_str pe_int)) (pa_cons pe_str (pa_cons (pe_op op_mulS pe_str pe_int) pa_nil)))))))))))))
      (pss_one (ps_ret (pe_ix ix_list (pv 1) (pe_op op_mod (pv 0) (pe_callB call_len_seq (by rfl) T.m_len PySem.boot_len (pa_cons (pv 1) pa_nil))) (fun _ _ => rfl)))))), ?_⟩
  refine ⟨(by show 16 ≤ sizeLine; decide), fun l1 n1 => ⟨_, rfl, ?_⟩⟩
  have s1 := same_new n1 (.lst [V.str (Str.ofString ""), V.str (Str.ofString " "), V.str (Str.ofString "0"), V.str (Str.ofString "1"), V.str (Str.ofString "100"), V.str (Str.ofString "101"), V.str (Str.ofString "99 1"), V.str (Str.ofString "99 2"), V.str (Str.ofString "3 4"), V.str (Str.ofString "4 3"), V.str (Str.ofString "4  3"), V.str (Str.ofString " 4 3"), V.str (Str.ofString "4 3 "), V.str (Str.ofString "04 3"), V.str (Str.ofString "4 03"), V.str (Str.ofString "+4")])
  refine ⟨_, _, rfl, rfl, ⟨by decide +kernel, fun _ _ => by decide +kernel, fun _ _ => by decide +kernel⟩, _, _, rfl, rfl, by decide +kernel, ?_⟩
  refine ⟨_, _, rfl, rfl, ⟨by decide +kernel, fun _ _ => by decide +kernel, fun _ _ => by decide +kernel⟩, _, _, rfl, rfl, by decide +kernel, ?_⟩
  refine ⟨_, _, rfl, rfl, ⟨by decide +kernel, fun _ _ => by decide +kernel, fun _ _ => by decide +kernel⟩, (by show 10 ≤ sizeLine; decide), fun l2 n2 => ?_⟩
  refine ⟨l1, l2, _, _, rfl, rfl, same_new n2 _ _ _ upd_same, upd_same, (by show 26 ≤ sizeLine; decide), fun l3 n3 => ?_⟩
  have sm := fun o3 : HO => (s1.trans (same_new n2 _)).trans (same_new n3 o3)
  refine ⟨_, rfl, _, rfl, _, rfl, l3, _, rfl, .inl (sq upd_same), _, _, rfl, rfl, (by show (0 : Int) < 26; decide), ?_⟩
  obtain ⟨k, ek, hk⟩ : ∃ k : Nat, c % 26 = (k : Int) ∧ k < 26 := by
    have h1 := Int.emod_nonneg c (show (26 : Int) ≠ 0 by decide)
    have h2 := Int.emod_lt_of_pos c (show (0 : Int) < 26 by decide)
    exact ⟨(c % 26).toNat, by omega, by omega⟩
  have hk : k = 0 ∨ k = 1 ∨ k = 2 ∨ k = 3 ∨ k = 4 ∨ k = 5 ∨ k = 6 ∨ k = 7 ∨ k = 8 ∨ k = 9 ∨ k = 10 ∨ k = 11 ∨ k = 12 ∨ k = 13 ∨ k = 14 ∨ k = 15 ∨ k = 16 ∨ k = 17 ∨ k = 18 ∨ k = 19 ∨ k = 20 ∨ k = 21 ∨ k = 22 ∨ k = 23 ∨ k = 24 ∨ k = 25 := by omega
  rcases hk with rfl | rfl | rfl | rfl | rfl | rfl | rfl | rfl | rfl | rfl | rfl | rfl | rfl | rfl | rfl | rfl | rfl | rfl | rfl | rfl | rfl | rfl | rfl | rfl | rfl | rfl
  all_goals exact ⟨l3, _, _, .str _, rfl, rfl, sq upd_same, at_of ek rfl, q _ _ (by decide +kernel) (sm _)⟩

end

section
variable {P : Program} {w : World} {K : PySem.W.Frag} {mg : Str → Option Value} {base : Heap}
theorem sc_law : FnScope ["script", "piles", "text", "pile", "way", "at", "sign", "due", "found", "which", "e"] ["script"] (defScope s_law) := ⟨rfl, rfl, rfl, by decide +kernel, rfl, by decide +kernel, by decide +kernel⟩
theorem log2_small {n : Nat} (h : n ≤ 100) : ((n : Nat) : Int).natAbs.log2 < 1920 := by
  rw [Int.natAbs_natCast]
  rcases Nat.eq_zero_or_pos n with e | e
  · subst e
    decide
  · have : n.log2 < 7 := (Nat.log2_lt (by omega)).mpr (by omega)
    omega
theorem sum_len3 : ∀ {ns : List Int}, (∀ x ∈ ns, ∃ n : Nat, x = n ∧ 1 ≤ n ∧ n ≤ 100) → ((ns.map nstr).map (·.length)).sum ≤ 3 * ns.length
  | [], _ => Nat.le_refl _
  | x :: r, h => by
    obtain ⟨n, rfl, h1, h2⟩ := h x (List.mem_cons_self ..)
    have w := word_of h1 h2
    have ih := sum_len3 (ns := r) fun z hz => h z (List.mem_cons_of_mem _ hz)
    rw [List.map_cons, List.map_cons, List.sum_cons, List.length_cons]
    have := w.l3
    omega
theorem note_bounds {ns : List Int} (hg : Good ns) (hs : ns.sum ≤ 100) : 1 ≤ (note ns).length ∧ (note ns).length ≤ 400 := by
  have hnat := hg.nat hs
  have h1 := PySem.StrLaws.join_length_le blank (ns.map nstr)
  have h3 := sum_len3 hnat
  have hl := len_le_sum hg.pos
  have e1 : blank.length = 1 := by decide +kernel
  rw [← TL.join_eq, e1, List.length_map] at h1
  have h2 : (note ns).length ≤ ((ns.map nstr).map (·.length)).sum + ns.length * 1 := h1
  refine ⟨?_, by omega⟩
  have hj := (join_ge (sep := blank) e1 (ns.map nstr)).1
  rw [← TL.join_eq] at hj
  obtain ⟨x, hx⟩ := List.exists_mem_of_ne_nil ns hg.ne
  obtain ⟨n, rfl, n1, n2⟩ := hnat x hx
  have := hj (nstr n) (List.mem_map.mpr ⟨_, hx, rfl⟩)
  exact Nat.le_trans (word_of n1 n2).l1 this
theorem ok_law_at (T : Txt K mg) {f : Addr} {fd : FuncData} (F : FunD K "law" "law" (defArgs s_law) (defBody s_law) (defScope s_law) [] [] f fd) : FnOk P w K mg base CX0 4 f fd ["script"] (spLaw K) := by
  have C_law_cell := ok_law_cell (P := P) (w := w) (base := base) T
  have C_law_due := ok_law_due (P := P) (w := w) (base := base) T
  have C_law_ints := ok_law_ints (P := P) (w := w) (base := base) T
  have C_law_odd := ok_law_odd (P := P) (w := w) (base := base) T
  have C_law_setting := ok_law_setting (P := P) (w := w) (base := base) T
  have C_law_sign := ok_law_sign (P := P) (w := w) (base := base) T
  have C_read := ok_read (P := P) (w := w) (base := base) T
  refine F.ok sc_law (fun vs H Q E h => ?_) (fun cdv A outer s H vs Q E hr h => ?_)
  · obtain ⟨a, ns, rfl, _⟩ := h
    rfl
  obtain ⟨a, ns, rfl, hS, hlen, q⟩ := h
  refine ⟨_, PSs.nox ((pss_cons (ps_set (i := 1) sc_law.nd rfl (Or.inl rfl) (pe_callF C_law_setting (hr.mono (by decide)) (pa_cons (pv 0) (pa_cons pe_int (pa_cons (pe_op op_add pe_int (pe_op op_mod (pe_callF C_law_cell (hr.mono (by decide)) (pa_cons (pv 0) (pa_cons pe_int pa_nil))) pe_int)) pa_nil)))))
      (pss_cons (ps_set (i := 2) sc_law.nd rfl (Or.inl rfl) (pe_join pe_str (pe_lc (own := [("pile", 3)]) (g := gName 3) rfl sc_law.nd (pi_list (pv 1)) (blkOk_by (own := [("pile", 3)]) (N := ["script", "piles", "text", "pile", "way", "at", "sign", "due", "found", "which", "e"]) (sc := defScope s_law) (by decide +kernel)) (fun _ _ _ _ _ => pg_name (i := 3) sc_law.nd rfl (Or.inl rfl)) (fun _ _ _ _ _ => pts_nil) (fun _ _ _ _ _ => (pe_callTy (T := "str") call_str_int (by rfl) T.m_str (by decide +kernel) (pa_cons (pv 3) pa_nil))))))
      (pss_cons (ps_set (i := 4) sc_law.nd rfl (Or.inl rfl) (pe_op op_mod (pe_callF C_law_cell (hr.mono (by decide)) (pa_cons (pv 0) (pa_cons pe_int pa_nil))) pe_int))
      (pss_cons (ps_set (i := 5) sc_law.nd rfl (Or.inl rfl) (pe_op op_mod (pe_callF C_law_cell (hr.mono (by decide)) (pa_cons (pv 0) (pa_cons pe_int pa_nil))) (pe_callB call_len_str (by rfl) T.m_len PySem.boot_len (pa_cons (pv 2) pa_nil))))
      (pss_cons (ps_set (i := 6) sc_law.nd rfl (Or.inl rfl) (pe_callF C_law_sign (hr.mono (by decide)) (pa_cons (pe_callF C_law_cell (hr.mono (by decide)) (pa_cons (pv 0) (pa_cons pe_int pa_nil))) (pa_cons (pe_callF C_law_cell (hr.mono (by decide)) (pa_cons (pv 0) (pa_cons pe_int pa_nil))) pa_nil))))
      (pss_cons (ps_if (pt_cmpR op_eq (pv 4) pe_int (nomark _))
      (pss_one (ps_set (i := 2) sc_law.nd rfl (Or.inl rfl) (pe_op op_add_str (pe_slice sl_str (pv 2) po_none (po_some (pv 5))) (pe_slice sl_str (pv 2) (po_some (pe_op op_add (pv 5) pe_int)) po_none)))) pss_nil)
      (pss_cons (ps_if (pt_cmpR op_eq (pv 4) pe_int (nomark _))
      (pss_one (ps_set (i := 2) sc_law.nd rfl (Or.inl rfl) (pe_op op_add_str (pe_op op_add_str (pe_slice sl_str (pv 2) po_none (po_some (pv 5))) (pv 6)) (pe_slice sl_str (pv 2) (po_some (pv 5)) po_none)))) pss_nil)
      (pss_cons (ps_if (pt_cmpR op_eq (pv 4) pe_int (nomark _))
      (pss_one (ps_set (i := 2) sc_law.nd rfl (Or.inl rfl) (pe_op op_add_str (pe_op op_add_str (pe_slice sl_str (pv 2) po_none (po_some (pv 5))) (pv 6)) (pe_slice sl_str (pv 2) (po_some (pe_op op_add (pv 5) pe_int)) po_none)))) pss_nil)
      (pss_cons (ps_if (pt_cmpR op_eq (pe_op op_mod (pe_callF C_law_cell (hr.mono (by decide)) (pa_cons (pv 0) (pa_cons pe_int pa_nil))) pe_int) pe_int (nomark _))
      (pss_one (ps_set (i := 2) sc_law.nd rfl (Or.inl rfl) (pe_callF C_law_odd (hr.mono (by decide)) (pa_cons (pe_callF C_law_cell (hr.mono (by decide)) (pa_cons (pv 0) (pa_cons pe_int pa_nil))) pa_nil)))) pss_nil)
      (pss_cons (ps_set (i := 7) sc_law.nd rfl (Or.inl rfl) (pe_callF C_law_due (hr.mono (by decide)) (pa_cons (pv 2) pa_nil)))
      (pss_cons (ps_set (i := 8) sc_law.nd rfl (Or.inl rfl) pe_non)
      (pss_cons (ps_set (i := 9) sc_law.nd rfl (Or.inl rfl) (pe_un un_neg pe_int))
      (pss_cons (L2N.ps_try_as (i := 10) rfl rfl sc_law.nd rfl rfl ⟨rfl, by decide, .inl T.g_PileError⟩ takes_no (fun W pn xe tk _ => (pss_one (ps_set (i := 8) sc_law.nd rfl (Or.inl rfl) (pe_callX C_read tk (hr.mono (by decide)) (pa_cons (pv 2) pa_nil)))))
      (fun a oe cls d pn hz hf => (pss_one (ps_set (i := 9) sc_law.nd rfl (Or.inl rfl) (pe_callP (ok_law_which (P := P) (w := w) (base := base) T hz hf) (roomH_suite (hr.mono (by decide)) _) (hot_suite hz hf) (List.mem_cons_self ..) (pa_cons (pv 10) pa_nil))))))
      (pss_cons (ps_if (pt_cmpR op_isN (pv 7) pe_non (nomark _))
      (pss_one (ps_ret (pe_and (pe_cmpR op_isN (pv 8) pe_non (nomark _)) (pe_one (pe_cmpR op_eq (pv 9) pe_int (nomark _)))))) pss_nil)
      (pss_one (ps_ret (pe_and (pe_cmpR op_eq (pv 9) (pe_un un_neg pe_int) (nomark _)) (pe_one (pe_callF C_law_ints (hr.mono (by decide)) (pa_cons (pv 8) (pa_cons (pv 7) pa_nil)))))))))))))))))))))), ?_⟩
  refine ⟨_, rfl, _, rfl, a, ns, 0, rfl, hS, by omega, fun z => ⟨_, _, rfl, rfl, (by show (0 : Int) < 100; decide), _, _, rfl, rfl, ?_⟩⟩
  obtain ⟨n, en, n1, n2⟩ := nat_of (z := z) (m := 100) (by decide)
  refine ⟨a, ns, 1, n, congrArg (fun z => [V.ref a, V.int 1, V.int z]) en, hS, by omega, n1, by omega, fun ps hps H1 p sm1 ep => ?_⟩
  have hl := hps.len
  have hg := hps.1
  have hs : ps.sum ≤ 100 := by rw [hps.2]; omega
  have hnat := hg.nat hs
  obtain ⟨hn1, hn2⟩ := note_bounds hg hs
  -- text
  refine ⟨⟨_, rfl⟩, _, rfl, p, rfl, ⟨_, sq ep⟩, fun D nD => lc_list (K := K) (a := p) (xs := ps.map V.int) (fun i H' => Same H1 H' ∧ H' D = some (.lst (((ps.take i).map nstr).map V.str))) ⟨same_new nD _, upd_same⟩ (fun i H' _ h => sq (h.1 _ _ ep)) ?_ ?_⟩
  · intro i x H' hx h
    obtain ⟨z, hz, rfl⟩ := get_int hx
    obtain ⟨sm, eD⟩ := h
    have hil := (List.getElem?_eq_some_iff.mp hz).1
    obtain ⟨m, rfl, m1, m2⟩ := hnat z (List.mem_of_getElem? hz)
    refine ⟨rfl, _, rfl, _, rfl, log2_small m2, _, eD, by rw [List.length_map, List.length_map, List.length_take]; exact smallL (by omega), same_mut sm nD _, ?_⟩
    rw [upd_same, take_snoc hz, List.map_append, List.map_append] <;> rfl
  · intro H2 h
    obtain ⟨sm, eD⟩ := h
    rw [nlen, List.take_length] at eD
    have h3 := sum_len3 hnat
    have e1 : (Str.ofString " ").length = 1 := by decide +kernel
    refine ⟨_, D, ps.map nstr, rfl, rfl, .inl (sq eD), by rw [e1, List.length_map, Nat.mul_one]; omega, ?_⟩
    have smA := sm1.trans sm
    have et : Txt.join (Str.ofString " ") (ps.map nstr) = note ps := rfl
    rw [et]
    generalize note ps = t0 at *
    refine ⟨_, rfl, a, ns, 5, rfl, smA.seq hS, by omega, fun z5 => ⟨_, _, rfl, rfl, (by show (0 : Int) < 4; decide), ?_⟩⟩
    refine ⟨_, rfl, a, ns, 6, rfl, smA.seq hS, by omega, fun z6 => ⟨_, rfl, _, rfl, small (by omega), _, _, rfl, rfl, (by show (0 : Int) < (t0.length : Int); omega), ?_⟩⟩
    refine ⟨_, rfl, a, ns, 7, rfl, smA.seq hS, by omega, fun z7 => ⟨_, rfl, a, ns, 8, rfl, smA.seq hS, by omega, fun z8 => ⟨z7, z8, rfl, fun sg hsg => ?_⟩⟩⟩
    have hcut : ∀ lo hi, (cutS t0 lo hi).length ≤ 400 := fun lo hi => Nat.le_trans (cutS_length t0 lo hi) hn2
    have yes : ∀ {u v : Int}, u = v → (decide (V.int u = V.int v)) = true := fun h => decide_eq_true (congrArg V.int h)
    have no : ∀ {u v : Int}, u ≠ v → ¬ (decide (V.int u = V.int v)) = true := fun h c => h (V.int.inj (of_decide_eq_true c))
    have hway : z5 % 4 = 0 ∨ z5 % 4 = 1 ∨ z5 % 4 = 2 ∨ z5 % 4 = 3 := by
      have h1 := Int.emod_nonneg z5 (show (4 : Int) ≠ 0 by decide)
      have h2 := Int.emod_lt_of_pos z5 (show (0 : Int) < 4 by decide)
      omega
    rcases hway with hy | hy | hy | hy
    case' inl =>
      refine ⟨_, rfl, rfl, _, rfl, ite2 (fun c => absurd c (no (by omega))) (fun _ => ⟨_, rfl, rfl, _, rfl, ite2 (fun c => absurd c (no (by omega))) (fun _ => ⟨_, rfl, rfl, _, rfl, ite2 (fun c => absurd c (no (by omega))) (fun _ => ?_)⟩)⟩)⟩
      have ht : t0.length ≤ 900 := by omega
      generalize t0 = t at *
    case' inr.inl =>
      refine ⟨_, rfl, rfl, _, rfl, ite2 (fun _ => ?_) (fun c => absurd (yes hy) c)⟩
      refine ⟨_, rfl, _, rfl, _, rfl, _, rfl, small (by omega), _, rfl, _, rfl, _, _, rfl, rfl, _, rfl, _, rfl, small (by omega), _, _, rfl, rfl, small (by have h1 := hcut none (some (z6 % (t0.length : Int))); have h2 := hcut (some (z6 % (t0.length : Int) + 1)) none; omega), ?_⟩
      have ht : (cutS t0 none (some (z6 % (t0.length : Int))) ++ cutS t0 (some (z6 % (t0.length : Int) + 1)) none).length ≤ 900 := by
        have h1 := hcut none (some (z6 % (t0.length : Int)))
        have h2 := hcut (some (z6 % (t0.length : Int) + 1)) none
        rw [len_app]
        omega
      refine ⟨_, rfl, rfl, _, rfl, ite2 (fun c => absurd c (no (by omega))) (fun _ => ⟨_, rfl, rfl, _, rfl, ite2 (fun c => absurd c (no (by omega))) (fun _ => ?_)⟩)⟩
      generalize cutS t0 none (some (z6 % (t0.length : Int))) ++ cutS t0 (some (z6 % (t0.length : Int) + 1)) none = t at *
    case' inr.inr.inl =>
      refine ⟨_, rfl, rfl, _, rfl, ite2 (fun c => absurd c (no (by omega))) (fun _ => ⟨_, rfl, rfl, _, rfl, ite2 (fun _ => ?_) (fun c => absurd (yes hy) c)⟩)⟩
      have h1 := hcut none (some (z6 % (t0.length : Int)))
      have h2 := hcut (some (z6 % (t0.length : Int))) none
      have h3 := len_app (cutS t0 none (some (z6 % (t0.length : Int)))) sg
      refine ⟨_, rfl, _, rfl, _, rfl, _, rfl, small (by omega), _, rfl, _, _, rfl, rfl, small (by omega), _, rfl, _, rfl, _, rfl, _, rfl, small (by omega), _, _, rfl, rfl, small (by omega), ?_⟩
      have ht : (cutS t0 none (some (z6 % (t0.length : Int))) ++ sg ++ cutS t0 (some (z6 % (t0.length : Int))) none).length ≤ 900 := by
        rw [len_app]
        omega
      refine ⟨_, rfl, rfl, _, rfl, ite2 (fun c => absurd c (no (by omega))) (fun _ => ?_)⟩
      clear h1 h2 h3
      generalize cutS t0 none (some (z6 % (t0.length : Int))) ++ sg ++ cutS t0 (some (z6 % (t0.length : Int))) none = t at *
    case' inr.inr.inr =>
      refine ⟨_, rfl, rfl, _, rfl, ite2 (fun c => absurd c (no (by omega))) (fun _ => ⟨_, rfl, rfl, _, rfl, ite2 (fun c => absurd c (no (by omega))) (fun _ => ⟨_, rfl, rfl, _, rfl, ite2 (fun _ => ?_) (fun c => absurd (yes hy) c)⟩)⟩)⟩
      have h1 := hcut none (some (z6 % (t0.length : Int)))
      have h2 := hcut (some (z6 % (t0.length : Int) + 1)) none
      have h3 := len_app (cutS t0 none (some (z6 % (t0.length : Int)))) sg
      refine ⟨_, rfl, _, rfl, _, rfl, _, rfl, small (by omega), _, rfl, _, _, rfl, rfl, small (by omega), _, rfl, _, rfl, _, _, rfl, rfl, _, rfl, _, rfl, small (by omega), _, _, rfl, rfl, small (by omega), ?_⟩
      have ht : (cutS t0 none (some (z6 % (t0.length : Int))) ++ sg ++ cutS t0 (some (z6 % (t0.length : Int) + 1)) none).length ≤ 900 := by
        rw [len_app]
        omega
      clear h1 h2 h3
      generalize cutS t0 none (some (z6 % (t0.length : Int))) ++ sg ++ cutS t0 (some (z6 % (t0.length : Int) + 1)) none = t at *
    all_goals
      refine ⟨_, rfl, a, ns, 9, rfl, smA.seq hS, by omega, fun z9 => ⟨_, _, rfl, rfl, (by show (0 : Int) < 8; decide), rfl, _, rfl, ite2 (fun _ => ?_) (fun _ => ?_)⟩⟩
      · refine ⟨_, rfl, a, ns, 10, rfl, smA.seq hS, by omega, fun z10 => ⟨z10, rfl, fun tF HX ht2 smX => ?_⟩⟩
        have htF : tF.length ≤ 900 := by omega
        refine ⟨_, rfl, tF, rfl, htF, fun ns2 hw H5 d sm5 nd ed => ?_, fun hno H5 sm5 => ?_⟩
        · refine ⟨1, rfl, _, rfl, tF, rfl, htF, fun ns3 hw3 H6 f sm6 nf ef => ?_, fun hno => absurd ⟨ns2, hw⟩ hno⟩
          have e : ns3 = ns2 := hw3.are.trans hw.are.symm
          subst e
          refine ⟨_, rfl, rfl, _, rfl, ite2 (fun c => absurd (of_decide_eq_true c) (fun e => by cases e)) (fun _ => ?_)⟩
          refine ⟨_, rfl, 1, rfl, rfl, true, congrArg V.bl (decide_eq_true rfl), ?_⟩
          refine ⟨_, rfl, _, rfl, f, d, _, _, rfl, ef, sm6 _ _ ed, by have := len_le_sum hw.good.pos; have := hw.sum; omega, ?_⟩
          rw [decide_eq_true rfl]
          exact q _
        · refine ⟨1, rfl, _, rfl, tF, rfl, htF, fun ns3 hw3 => absurd ⟨ns3, hw3⟩ hno, fun _ H6 sm6 => ?_⟩
          refine ⟨true, (T.xc "NoNote" (by decide)).pe, fun _ x nx => ?_, fun z => by cases z⟩
          refine ⟨_, rfl, 4, "NoNote", rfl, rfl, rfl, rfl, fun H7 sm7 => ?_⟩
          refine ⟨_, rfl, rfl, _, rfl, ite2 (fun _ => ?_) (fun c => absurd (decide_eq_true (rfl : V.non = V.non)) c)⟩
          refine ⟨_, rfl, rfl, ?_⟩
          refine ⟨true, congrArg V.bl (decide_eq_true rfl), _, rfl, rfl, ?_⟩
          rw [show decide (V.int ((4 : Nat) : Int) = V.int 4) = true from decide_eq_true rfl]
          exact q _
      · have htF := ht
        generalize t = tF at *
        generalize H2 = HX at *
        refine ⟨_, rfl, tF, rfl, htF, fun ns2 hw H5 d sm5 nd ed => ?_, fun hno H5 sm5 => ?_⟩
        · refine ⟨1, rfl, _, rfl, tF, rfl, htF, fun ns3 hw3 H6 f sm6 nf ef => ?_, fun hno => absurd ⟨ns2, hw⟩ hno⟩
          have e : ns3 = ns2 := hw3.are.trans hw.are.symm
          subst e
          refine ⟨_, rfl, rfl, _, rfl, ite2 (fun c => absurd (of_decide_eq_true c) (fun e => by cases e)) (fun _ => ?_)⟩
          refine ⟨_, rfl, 1, rfl, rfl, true, congrArg V.bl (decide_eq_true rfl), ?_⟩
          refine ⟨_, rfl, _, rfl, f, d, _, _, rfl, ef, sm6 _ _ ed, by have := len_le_sum hw.good.pos; have := hw.sum; omega, ?_⟩
          rw [decide_eq_true rfl]
          exact q _
        · refine ⟨1, rfl, _, rfl, tF, rfl, htF, fun ns3 hw3 => absurd ⟨ns3, hw3⟩ hno, fun _ H6 sm6 => ?_⟩
          refine ⟨true, (T.xc "NoNote" (by decide)).pe, fun _ x nx => ?_, fun z => by cases z⟩
          refine ⟨_, rfl, 4, "NoNote", rfl, rfl, rfl, rfl, fun H7 sm7 => ?_⟩
          refine ⟨_, rfl, rfl, _, rfl, ite2 (fun _ => ?_) (fun c => absurd (decide_eq_true (rfl : V.non = V.non)) c)⟩
          refine ⟨_, rfl, rfl, ?_⟩
          refine ⟨true, congrArg V.bl (decide_eq_true rfl), _, rfl, rfl, ?_⟩
          rw [show decide (V.int ((4 : Nat) : Int) = V.int 4) = true from decide_eq_true rfl]
          exact q _

end

/-! ### the head: facts by names, the run -/
def dd_is_setting : He.DefD := ⟨("is_setting", none), "is_setting", "is_setting", defArgs s_is_setting, defBody s_is_setting, defScope s_is_setting, [], []⟩
def dd_pile_of : He.DefD := ⟨("pile_of", none), "pile_of", "pile_of", defArgs s_pile_of, defBody s_pile_of, defScope s_pile_of, [], []⟩
def dd_read : He.DefD := ⟨("read", none), "read", "read", defArgs s_read, defBody s_read, defScope s_read, [], []⟩
def dd_law_cell : He.DefD := ⟨("_law_cell", none), "_law_cell", "_law_cell", defArgs s_law_cell, defBody s_law_cell, defScope s_law_cell, [], []⟩
def dd_law_ints : He.DefD := ⟨("_law_ints", none), "_law_ints", "_law_ints", defArgs s_law_ints, defBody s_law_ints, defScope s_law_ints, [], []⟩
def dd_law_next : He.DefD := ⟨("_law_next", none), "_law_next", "_law_next", defArgs s_law_next, defBody s_law_next, defScope s_law_next, [], []⟩
def dd_law_fallen : He.DefD := ⟨("_law_fallen", none), "_law_fallen", "_law_fallen", defArgs s_law_fallen, defBody s_law_fallen, defScope s_law_fallen, [], []⟩
def dd_law_turned : He.DefD := ⟨("_law_turned", none), "_law_turned", "_law_turned", defArgs s_law_turned, defBody s_law_turned, defScope s_law_turned, [], []⟩
def dd_law_stair : He.DefD := ⟨("_law_stair", none), "_law_stair", "_law_stair", defArgs s_law_stair, defBody s_law_stair, defScope s_law_stair, [], []⟩
def dd_law_by_marks : He.DefD := ⟨("_law_by_marks", none), "_law_by_marks", "_law_by_marks", defArgs s_law_by_marks, defBody s_law_by_marks, defScope s_law_by_marks, [], []⟩
def dd_law_drawn_marks : He.DefD := ⟨("_law_drawn_marks", none), "_law_drawn_marks", "_law_drawn_marks", defArgs s_law_drawn_marks, defBody s_law_drawn_marks, defScope s_law_drawn_marks, [], []⟩
def dd_law_elder : He.DefD := ⟨("_law_elder", none), "_law_elder", "_law_elder", defArgs s_law_elder, defBody s_law_elder, defScope s_law_elder, [], []⟩
def dd_law_drawn_piles : He.DefD := ⟨("_law_drawn_piles", none), "_law_drawn_piles", "_law_drawn_piles", defArgs s_law_drawn_piles, defBody s_law_drawn_piles, defScope s_law_drawn_piles, [], []⟩
def dd_law_setting : He.DefD := ⟨("_law_setting", none), "_law_setting", "_law_setting", defArgs s_law_setting, defBody s_law_setting, defScope s_law_setting, [], []⟩
def dd_law_good : He.DefD := ⟨("_law_good", none), "_law_good", "_law_good", defArgs s_law_good, defBody s_law_good, defScope s_law_good, [], []⟩
def dd_law_which : He.DefD := ⟨("_law_which", none), "_law_which", "_law_which", defArgs s_law_which, defBody s_law_which, defScope s_law_which, [], []⟩
def dd_law_due : He.DefD := ⟨("_law_due", none), "_law_due", "_law_due", defArgs s_law_due, defBody s_law_due, defScope s_law_due, [], []⟩
def dd_law_sign : He.DefD := ⟨("_law_sign", none), "_law_sign", "_law_sign", defArgs s_law_sign, defBody s_law_sign, defScope s_law_sign, [], []⟩
def dd_law_odd : He.DefD := ⟨("_law_odd", none), "_law_odd", "_law_odd", defArgs s_law_odd, defBody s_law_odd, defScope s_law_odd, [], []⟩
def dd_law : He.DefD := ⟨("law", none), "law", "law", defArgs s_law, defBody s_law, defScope s_law, [], []⟩
def fn : List He.DefD := [dd_is_setting, dd_pile_of, dd_read, dd_law_cell, dd_law_ints, dd_law_next, dd_law_fallen, dd_law_turned, dd_law_stair, dd_law_by_marks, dd_law_drawn_marks, dd_law_elder, dd_law_drawn_piles, dd_law_setting, dd_law_good, dd_law_which, dd_law_due, dd_law_sign, dd_law_odd, dd_law]
def fa : List He.Fa := [.glo "is_setting", .glo "pile_of", .glo "read", .glo "_law_cell", .glo "_law_ints", .glo "_law_next", .glo "_law_fallen", .glo "_law_turned", .glo "_law_stair", .glo "_law_by_marks", .glo "_law_drawn_marks", .glo "_law_elder", .glo "_law_drawn_piles", .glo "_law_setting", .glo "_law_good", .glo "_law_which", .glo "_law_due", .glo "_law_sign", .glo "_law_odd", .glo "law", .str "FIGURES" "0123456789", .int "MOST" 100, .free "ValueError", .free "bool", .free "int", .free "isinstance", .free "len", .free "list", .free "min", .free "range", .free "reversed", .free "sorted", .free "str", .free "sum"]
abbrev R : PySem.W.OpenRow := PySem.W.OpenLaw.row PySem.Challenge.rw_pilewheel_k19_read_or_refused
abbrev hk : PySem.W.Hook := hookXE 4 fa fn excB
def ob (s : PySem.W.SharedT) : AlE := obsXE 4 fa fn excB (HandSHeadRun.getT s)
theorem ob_eq (s : PySem.W.SharedT) : ob s = hk.obs s.abs := obsXE_eq (HandSHeadRun.getT_eq s)
def loose : List PySem.Str := [("PileError" : PySem.Str), ("NoPiles" : PySem.Str), ("NotRound" : PySem.Str), ("NoMarks" : PySem.Str), ("NoNumber" : PySem.Str), ("NoNote" : PySem.Str), ("is_setting" : PySem.Str), ("pile_of" : PySem.Str), ("read" : PySem.Str), ("_law_cell" : PySem.Str), ("_law_ints" : PySem.Str), ("_law_next" : PySem.Str), ("_law_fallen" : PySem.Str), ("_law_turned" : PySem.Str), ("_law_stair" : PySem.Str), ("_law_by_marks" : PySem.Str), ("_law_drawn_marks" : PySem.Str), ("_law_elder" : PySem.Str), ("_law_drawn_piles" : PySem.Str), ("_law_setting" : PySem.Str), ("_law_good" : PySem.Str), ("_law_which" : PySem.Str), ("_law_due" : PySem.Str), ("_law_sign" : PySem.Str), ("_law_odd" : PySem.Str), ("MOST" : PySem.Str), ("FIGURES" : PySem.Str)]
theorem run (w : World) : HandSHeadRun.RunEq R (PySem.W.view R.prog [31]) hk ob 4000 loose w := by
  intro os
  kernel_rfl
theorem facts {P : Program} {w : World} {K : PySem.W.Frag} {h : Heap} {mg : Str → Option Value} {f : Addr} (X : K.In h) (G : h.Ns mainGlobals mg) (hfa : mg ("law" : Str) = some (.ref f)) (c : He.SaysD fa fn K) (cx : excB K = true) :
    ∃ fd : FuncData, (∀ (s : Shared) (v : Value), BindsTo s fd ⟨[v], []⟩ [("script", v)]) ∧ ∀ base : Heap, K.In base → base.Ns mainGlobals mg → FnOk P w K mg base CX0 4 f fd ["script"] (spLaw K) := by
  have T : Txt K mg := {
      d_is_setting := by
        obtain ⟨fd, F⟩ := c.def_ 0 (d := dd_is_setting) rfl
        exact ⟨fd, F, He.glo_ok X G (c.fact 0 (f := .glo "is_setting") rfl)⟩,
      d_pile_of := by
        obtain ⟨fd, F⟩ := c.def_ 1 (d := dd_pile_of) rfl
        exact ⟨fd, F, He.glo_ok X G (c.fact 1 (f := .glo "pile_of") rfl)⟩,
      d_read := by
        obtain ⟨fd, F⟩ := c.def_ 2 (d := dd_read) rfl
        exact ⟨fd, F, He.glo_ok X G (c.fact 2 (f := .glo "read") rfl)⟩,
      d_law_cell := by
        obtain ⟨fd, F⟩ := c.def_ 3 (d := dd_law_cell) rfl
        exact ⟨fd, F, He.glo_ok X G (c.fact 3 (f := .glo "_law_cell") rfl)⟩,
      d_law_ints := by
        obtain ⟨fd, F⟩ := c.def_ 4 (d := dd_law_ints) rfl
        exact ⟨fd, F, He.glo_ok X G (c.fact 4 (f := .glo "_law_ints") rfl)⟩,
      d_law_next := by
        obtain ⟨fd, F⟩ := c.def_ 5 (d := dd_law_next) rfl
        exact ⟨fd, F, He.glo_ok X G (c.fact 5 (f := .glo "_law_next") rfl)⟩,
      d_law_fallen := by
        obtain ⟨fd, F⟩ := c.def_ 6 (d := dd_law_fallen) rfl
        exact ⟨fd, F, He.glo_ok X G (c.fact 6 (f := .glo "_law_fallen") rfl)⟩,
      d_law_turned := by
        obtain ⟨fd, F⟩ := c.def_ 7 (d := dd_law_turned) rfl
        exact ⟨fd, F, He.glo_ok X G (c.fact 7 (f := .glo "_law_turned") rfl)⟩,
      d_law_stair := by
        obtain ⟨fd, F⟩ := c.def_ 8 (d := dd_law_stair) rfl
        exact ⟨fd, F, He.glo_ok X G (c.fact 8 (f := .glo "_law_stair") rfl)⟩,
      d_law_by_marks := by
        obtain ⟨fd, F⟩ := c.def_ 9 (d := dd_law_by_marks) rfl
        exact ⟨fd, F, He.glo_ok X G (c.fact 9 (f := .glo "_law_by_marks") rfl)⟩,
      d_law_drawn_marks := by
        obtain ⟨fd, F⟩ := c.def_ 10 (d := dd_law_drawn_marks) rfl
        exact ⟨fd, F, He.glo_ok X G (c.fact 10 (f := .glo "_law_drawn_marks") rfl)⟩,
      d_law_elder := by
        obtain ⟨fd, F⟩ := c.def_ 11 (d := dd_law_elder) rfl
        exact ⟨fd, F, He.glo_ok X G (c.fact 11 (f := .glo "_law_elder") rfl)⟩,
      d_law_drawn_piles := by
        obtain ⟨fd, F⟩ := c.def_ 12 (d := dd_law_drawn_piles) rfl
        exact ⟨fd, F, He.glo_ok X G (c.fact 12 (f := .glo "_law_drawn_piles") rfl)⟩,
      d_law_setting := by
        obtain ⟨fd, F⟩ := c.def_ 13 (d := dd_law_setting) rfl
        exact ⟨fd, F, He.glo_ok X G (c.fact 13 (f := .glo "_law_setting") rfl)⟩,
      d_law_good := by
        obtain ⟨fd, F⟩ := c.def_ 14 (d := dd_law_good) rfl
        exact ⟨fd, F, He.glo_ok X G (c.fact 14 (f := .glo "_law_good") rfl)⟩,
      d_law_which := by
        obtain ⟨fd, F⟩ := c.def_ 15 (d := dd_law_which) rfl
        exact ⟨fd, F, He.glo_ok X G (c.fact 15 (f := .glo "_law_which") rfl)⟩,
      d_law_due := by
        obtain ⟨fd, F⟩ := c.def_ 16 (d := dd_law_due) rfl
        exact ⟨fd, F, He.glo_ok X G (c.fact 16 (f := .glo "_law_due") rfl)⟩,
      d_law_sign := by
        obtain ⟨fd, F⟩ := c.def_ 17 (d := dd_law_sign) rfl
        exact ⟨fd, F, He.glo_ok X G (c.fact 17 (f := .glo "_law_sign") rfl)⟩,
      d_law_odd := by
        obtain ⟨fd, F⟩ := c.def_ 18 (d := dd_law_odd) rfl
        exact ⟨fd, F, He.glo_ok X G (c.fact 18 (f := .glo "_law_odd") rfl)⟩,
      c_FIGURES := by
        obtain ⟨t, e⟩ := He.str_ok X G (c.fact 20 (f := .str "FIGURES" "0123456789") rfl)
        exact ⟨_, e, t, rfl⟩,
      c_MOST := by
        obtain ⟨t, e⟩ := He.int_ok X G (c.fact 21 (f := .int "MOST" 100) rfl)
        exact ⟨_, e, t, rfl⟩,
      m_ValueError := He.free_ok X G (c.fact 22 (f := .free "ValueError") rfl),
      m_bool := He.free_ok X G (c.fact 23 (f := .free "bool") rfl),
      m_int := He.free_ok X G (c.fact 24 (f := .free "int") rfl),
      m_isinstance := He.free_ok X G (c.fact 25 (f := .free "isinstance") rfl),
      m_len := He.free_ok X G (c.fact 26 (f := .free "len") rfl),
      m_list := He.free_ok X G (c.fact 27 (f := .free "list") rfl),
      m_min := He.free_ok X G (c.fact 28 (f := .free "min") rfl),
      m_range := He.free_ok X G (c.fact 29 (f := .free "range") rfl),
      m_reversed := He.free_ok X G (c.fact 30 (f := .free "reversed") rfl),
      m_sorted := He.free_ok X G (c.fact 31 (f := .free "sorted") rfl),
      m_str := He.free_ok X G (c.fact 32 (f := .free "str") rfl),
      m_sum := He.free_ok X G (c.fact 33 (f := .free "sum") rfl),
      xc := fun x hx => xcls_of X G (List.all_eq_true.mp (He.ba cx).2 x hx),
      g_PileError := He.glo_ok X G (He.ba cx).1 }
  obtain ⟨fd, F⟩ := c.def_ 19 (d := dd_law) rfl
  have e := hfa.symm.trans (He.glo_ok X G (c.fact 19 (f := .glo "law") rfl))
  cases e
  have b := FunD.bindsA (ps := ["script"]) F fun _ _ _ _ _ _ us hl => match us, hl with | [_], _ => rfl
  exact ⟨fd, fun s v => b s [v] rfl, fun base _ _ => ok_law_at T F⟩

end PW
open PySem PySem.W PySem.Calls PyProof.Rows
set_option maxRecDepth 100000 in
set_option maxHeartbeats 0 in
theorem PySem.Challenge.cw_pilewheel_k19_read_or_refused_holds : PySem.Challenge.rw_pilewheel_k19_read_or_refused.Holds := by
  w_on; o_law
  refine HandSHeadRun.head_any (r := OpenLaw.row PySem.Challenge.rw_pilewheel_k19_read_or_refused) (q := view (OpenLaw.row PySem.Challenge.rw_pilewheel_k19_read_or_refused).prog [31]) (H := PW.hk) (ob := PW.ob) (M := 4000) (loose := PW.loose) (d := HandSHeadRun.topDef (OpenLaw.row PySem.Challenge.rw_pilewheel_k19_read_or_refused).prog 31) (kwd := []) PW.ob_eq
    (by kernel_rfl) (fun s => by kernel_rfl) PW.run (by kernel_rfl) (by kernel_rfl) (by kernel_rfl) (by rfl) (by first | assumption | decide +kernel) (by decide +kernel) ⟨rfl, rfl, rfl, rfl, rfl, by decide +kernel⟩ ?hw ?hc
  case hw => w_witness2
  case hc =>
    refine L2.walk_ofE (l := PySem.Challenge.rw_pilewheel_k19_read_or_refused) (n := 63) (k := 4) (x := "script") (CX := L2.CX0) rfl (by decide) (by kernel_rfl) ⟨rfl, by decide, by decide⟩ ?F (fun _ _ _ _ z => z)
    intro w mg fa h Y G hmg0
    obtain ⟨K, KX, c, cx⟩ := Y
    have hmg : mg ("law" : PySem.Str) = some (.ref fa) := by
      have e : (HandSHeadRun.topDef (OpenLaw.row PySem.Challenge.rw_pilewheel_k19_read_or_refused).prog 31).name = ("law" : PySem.Str) := by kernel_rfl
      rw [← e]
      exact hmg0
    obtain ⟨fd, hb, hF⟩ := PW.facts (P := (PySem.Challenge.rw_pilewheel_k19_read_or_refused).prog) (w := w) KX G hmg c cx
    exact ⟨K, fd, PW.spLaw K, KX, hb, fun H a ns hl _ hS => ⟨a, ns, rfl, hS, hl, fun _ => rfl⟩, hF⟩
