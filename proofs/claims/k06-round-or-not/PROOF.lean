import PyProof.Rows.All
import Wide.All
import OpenK.AllK
import Wide.FinOn
import KE.KStateDown
import Lean
import HandS.ForMost
import HandS.Exc
import HandS.More
import HandS.WordsExc
import HandS.Defaults
import HandS.Wide
import HandS.SortInts
import HandS.Rev
import HandS.IsInst
import HandS.Deep
import HandS.Zip
import KE.SortData
import KE.DataMinMax
import KE.DataCmp
import HandS.Head0
import HandS.Head1
import HandS.Head2
import HandS.HeadEnd
import HandS.HeadHook1
import HandS.HeadHook2
import HandS.ExcOwn
import HandS.ExcCtx
import HandS.ExcIs
import HandS.ExcInitHot
import HandS.Hot
import HandS.HotCalls
import HandS.TryMany
import HandS.SetFor
import PySem.Challenge.RW_pilewheel_k06_round_or_not
set_option Elab.async false
set_option linter.all false
set_option maxRecDepth 100000
set_option maxHeartbeats 4000000
namespace PW
open PySem PySem.Spec PyProof.Rows L2

/-! ### a def that may be called -/
structure Cal (P : Program) (w : World) (K : PySem.W.Frag) (mg : Str → Option Value) (base : Heap) (CX : CXT) (k : Nat) (x : Str) (ps : List Str) (sp : Sp) : Prop where
  ex : ∃ (f : Addr) (fd : FuncData), FnOk P w K mg base CX k f fd ps sp ∧ mg x = some (.ref f) ∧ PySem.W.keepIn K (.ref f) = true ∧ Binds K fd ps []
def DefAt (K : PySem.W.Frag) (mg : Str → Option Value) (x : Str) (st : Stmt) : Prop :=
  ∃ fd, FunD K x x (defArgs st) (defBody st) (defScope st) [] [] (He.ga K x) fd ∧ mg x = some (.ref (He.ga K x))
theorem pe_callF {X : Cx} {k : Nat} {x : Str} {ps : List Str} {sp : Sp} {e : Expr} {es : List Expr} {t : TA} {p pos : Pos} (C : Cal X.prog X.w X.K X.mg X.base CX0 k x ps sp) (hr : Room k X.A) (ha : PA X (e :: es) t) (hg : Gl X x := by rfl)
    (hdb : (x == ("__debug__" : Str)) = false := by decide) (he : starEach (e :: es) X.env = (false, eval e X.env) :: starEach es X.env := by rfl) (hpl : (backTo pos (starEach es X.env)).any (·.1) = false := by rfl) :
    PE X (.Call (.Name x p) (e :: es) [] pos) (tCall sp [] E0 t) := by
  obtain ⟨f, fd, F, hm, hk, hb⟩ := C.ex
  exact pe_call F hr hg hm hk hb .nil pass0 ha hdb he hpl
theorem pe_globX {X : Cx} {x : Str} {v : V} {pos : Pos} (h : ∃ u, X.mg x = some u ∧ RelV v u) (hg : Gl X x := by rfl) (hd : (x == ("__debug__" : Str)) = false := by decide) : PE X (.Name x pos) (tC v) := by
  obtain ⟨u, hm, r⟩ := h
  exact pe_glob hg hm r hd
theorem cal_mk {P : Program} {w : World} {K : PySem.W.Frag} {mg : Str → Option Value} {base : Heap} {x : Str} {st : Stmt} {N ps : List Str} {k : Nat} {sp : Sp} (D : DefAt K mg x st) (S : FnScope N ps (defScope st)) (len : ∀ vs H Q E, sp vs H Q E → vs.length = ps.length)
    (hb : ∀ (kV doc pm : Value) (an : Option Addr) (cdv ct : Value) (us : List Value), us.length = ps.length → bindArgs (PySem.W.fnOf x x (defArgs st) (defBody st) (defScope st) .none kV doc pm an cdv ct) ⟨us, []⟩ = pure (ps.zip us))
    (hbody : ∀ (f : Addr) (cdv : Value) (A : Around) (outer : List Env) (s : Shared) (H : Hp) (vs : List V) (Q : VK) (E : XK), Room k (A.deeper (envOfC x (defScope st) s.heap.objs.size f cdv)) → sp vs H Q E →
      ∃ t, PSs (cxOf CX0 P w K mg base N x (defScope st) f cdv A outer s H E).nox (defBody st) t ∧ t { nx := fun _ H' => Q .non H', rt := Q } (start N vs) H) : Cal P w K mg base CX0 (k + 1) x ps sp := by
  obtain ⟨fd, F, g⟩ := D
  refine ⟨⟨_, fd, F.ok S len (fun cdv A outer s H vs Q E hr h => ?_), g, F.kp, F.bindsN hb⟩⟩
  obtain ⟨t, h1, h2⟩ := hbody _ cdv A outer s H vs Q E hr h
  exact ⟨t, h1.nox, h2⟩
/-! ### heaps -/
theorem same_new {H : Hp} {p : Addr} (h : H p = none) (o : HO) : Same H (upd H p o) := fun b u q => by rw [upd_ne (ne_of_none q h)]; exact q
theorem same_mut {H H' : Hp} {p : Addr} (e : Same H H') (h : H p = none) (o : HO) : Same H (upd H' p o) := fun b u q => by
  rw [upd_ne (ne_of_none q h)]
  exact e b u q
theorem small {n : Nat} (h : n ≤ 100000) : n ≤ sizeLine := Nat.le_trans h (by decide)
theorem smallL {n : Nat} (h : n ≤ 100000) : n < sizeLine := Nat.lt_of_le_of_lt h (by decide)
/-- a list of ints that may be changed; the script -/
abbrev IL (H : Hp) (a : Addr) (ns : List Int) : Prop := H a = some (.lst (ns.map V.int))
abbrev SL (K : PySem.W.Frag) (H : Hp) (a : Addr) (ns : List Int) : Prop := SqL K H a (ns.map V.int)
/-- a new list of ints -/
abbrev NL (Q : VK) (H : Hp) (ns : List Int) : Prop := ∀ (H' : Hp) (p : Addr), Same H H' → H p = none → IL H' p ns → Q (.ref p) H'
theorem sq {K : PySem.W.Frag} {H : Hp} {a : Addr} {xs : List V} (h : H a = some (.lst xs)) : SqL K H a xs := .inl (.inl h)
theorem nlen {ns : List Int} : (ns.map V.int).length = ns.length := List.length_map _
theorem take_snoc {α : Type} {l : List α} {i : Nat} {x : α} (h : l[i]? = some x) : l.take (i + 1) = l.take i ++ [x] := by
  rw [List.take_add_one, h] <;> rfl
theorem cut_to (xs : List V) {j : Nat} (h : j ≤ xs.length) : cutV xs none (some (j : Int)) = xs.take j := by
  unfold cutV
  rw [HT.sIx_none, HT.sIx_nat, Nat.min_eq_left h] <;> rfl
theorem cut_from (xs : List V) {j : Nat} (h : j ≤ xs.length) : cutV xs (some (j : Int)) none = xs.drop j := by
  unfold cutV
  rw [HT.sIx_none, HT.sIx_nat, Nat.min_eq_left h]
  exact List.take_of_length_le (by rw [List.length_drop]; exact Nat.le_refl _)
theorem get_int {ns : List Int} {i : Nat} {x : V} (h : (ns.map V.int)[i]? = some x) : ∃ z, ns[i]? = some z ∧ x = .int z := by
  rw [List.getElem?_map] at h
  cases e : ns[i]? with
  | none => rw [e] at h; cases h
  | some z => rw [e] at h; exact ⟨z, rfl, (Option.some.inj h).symm⟩
theorem int_get {ns : List Int} {i : Nat} {z : Int} (h : ns[i]? = some z) : (ns.map V.int)[i]? = some (.int z) := by
  rw [List.getElem?_map, h] <;> rfl
/-- list(reversed(e)), e a list -/
def tListRev (K : PySem.W.Frag) (te : TE) : TE := fun σ H Q => te σ H fun v H1 => ∃ (a : Addr) (xs : List V), v = .ref a ∧ SqL K H1 a xs ∧ ∀ q, H1 q = none → Q (.ref q) (upd H1 q (.lst xs.reverse))
/-! ### rules within a comprehension: the written part by name -/
theorem ix_listK {X : Cx} (K : PySem.W.Frag) (h : X.K = K := by rfl) : IxR X (rIxL K) := by
  subst h
  exact ix_list
theorem call_len_seqK {X : Cx} (K : PySem.W.Frag) (h : X.K = K := by rfl) : CallR X (.builtin "len") (fun xs H Q => ∃ p ys, xs = [.ref p] ∧ (SqL K H p ys ∨ SqT K H p ys) ∧ Q (.int ys.length) H) := by
  subst h
  exact call_len_seq
theorem op_in_seqK {X : Cx} (K : PySem.W.Frag) (h : X.K = K := by rfl) : OpR X (compareOp .In) (rIn K false) := by
  subst h
  exact op_in_seq
theorem op_notIn_seqK {X : Cx} (K : PySem.W.Frag) (h : X.K = K := by rfl) : OpR X (compareOp .NotIn) (rIn K true) := by
  subst h
  exact op_notIn_seq
theorem sl_listK {X : Cx} (K : PySem.W.Frag) (h : X.K = K := by rfl) : SlR X (rSlL K) := by
  subst h
  exact sl_list
theorem hu65 {A : Around} {k : Nat} (r : Room k A) : A.units + 65 < cLine := by
  have := r.un
  omega
theorem call_list_ofK {X : Cx} (K : PySem.W.Frag) (h : X.K = K := by rfl) : CallR X (.type "list") (fun xs H Q => ∃ p ys, xs = [.ref p] ∧ (SqL K H p ys ∨ SqT K H p ys) ∧ ∀ l, H l = none → Q (.ref l) (upd H l (.lst ys))) := by
  subst h
  exact call_list_of

/-! ### list(reversed(e)) -/
section
variable {prog : Program} {w : World} {A : Around} {E : Value → Shared → Prop} {s : Shared} {R : Result → Shared → Prop}
theorem ext_rev (hh : A.handled = none) {it l : Addr} {items : Array Value} (hit : s.heap.IsRevIter it l ((items.size : Int) - 1)) (hl : s.heap.IsList l items) (hne : l ≠ it) (hn : items.size ≤ sizeLine) (S : Addr) (res : Value) (c0 : Nat)
    (hS : s.heap.get? S = some { cls := .type "list", data := .seq #[] c0 }) (hSi : S ≠ it) (hSl : S ≠ l)
    (hR : ∀ (h' : Heap) (tk : Nat) (acc' : Array Value) (c' : Nat), (∀ b o, b ≠ S → b ≠ it → s.heap.get? b = some o → h'.get? b = some o) → h'.get? S = some { cls := .type "list", dict := none, data := .seq acc' c', slots := #[] } →
      ItemsOf (fun i v => items[items.size - 1 - i]? = some v) acc' items.size → R (.ok (.ret res)) { s with heap := h', toks := tk }) :
    wpAny (model prog w) A.in1 (Builtin.List.listExtendWith (.ref S) (.ref it) res)
      (fun fin s' => match fin with | .done f => R (.ok f) s' | .again c' => c'.quiet = true ∧ codeAny (model prog w) A c' R s') (fun e s' => R (.error e) s') s := by
  have W := (Walks.listRev (prog := prog) (w := w) (A := A.in1) hh it l hne items).toS
  have hSf : S ∉ [it, l] := by simp only [List.mem_cons, List.not_mem_nil, or_false, not_or]; exact ⟨hSi, hSl⟩
  have hT : s.TypeIs (.ref it) "list_reverseiterator" := Heap.IsRevIter.typeIs hit
  have h1 : Builtin.List.listSameRef (.ref S) (.ref it) = false := by simp [Builtin.List.listSameRef, hSi]
  unfold Builtin.List.listExtendWith
  refine wpAny_bind (wpAny_typeOf hT ?_)
  rw [if_neg (by rw [h1]; decide)]
  refine wpAny_bind (wpAny_pyIter_revIter (s := s) hit ?_)
  refine wpAny_bind (wpAny_holding ?_)
  unfold Builtin.List.listLengthHint
  refine wpAny_bind (wpAny_specialOf hT RT.nolen_lri ?_)
  show wpAny _ A.in1 (specialOf (Value.ref it) (Str.ofString "__length_hint__") >>= _) _ _ _
  refine wpAny_bind (wpAny_specialOf hT RT.hint_lri ?_)
  generalize hid : ("list_reverseiterator.__length_hint__" : String) = id0
  wp_delta
  rw [show splitId id0 = some ("list_reverseiterator", "__length_hint__") from by subst hid; decide +kernel]
  subst hid
  refine wpAny_bind (wpAny_isInstance (b := true) hT (by rw [isSubtype_type]; kernel_rfl) ?_)
  refine wpAny_pure ?_
  rw [if_neg (by decide)]
  have e0 : ((items.size : Nat) : Int) - 1 - ((0 : Nat) : Int) = (items.size : Int) - 1 := by omega
  refine wpAny_pure ⟨plainId_quiet F.plain_extend_loop _, codeAny_extend_loopS W hn _ hSf _ items.size 0 _ _ _ rfl (Nat.zero_le _) ⟨Nat.zero_le _, by rw [e0]; exact hit, hl⟩ hS (ItemsOf.nil _) fun s' acc' c' hm hS' hacc => ?_⟩
  rw [Moved.eq_with hm]
  refine hR s'.heap s'.toks acc' c' (fun b o hb hb2 e => hm.heap b o (fun hmem => ?_) e) hS' hacc
  rcases List.mem_cons.mp hmem with e' | hmem
  · exact hb e'
  · exact hb2 (List.mem_singleton.mp hmem)
theorem init_rev (hh : A.handled = none) {it l : Addr} {items : Array Value} (hit : s.heap.IsRevIter it l ((items.size : Int) - 1)) (hl : s.heap.IsList l items) (hne : l ≠ it) (hn : items.size ≤ sizeLine) (S : Addr)
    (hS : s.heap.get? S = some { cls := .type "list", data := .seq #[] }) (hSi : S ≠ it) (hSl : S ≠ l)
    (hR : ∀ (h' : Heap) (tk : Nat) (acc' : Array Value) (c' : Nat), (∀ b o, b ≠ S → b ≠ it → s.heap.get? b = some o → h'.get? b = some o) → h'.get? S = some { cls := .type "list", dict := none, data := .seq acc' c', slots := #[] } →
      ItemsOf (fun i v => items[items.size - 1 - i]? = some v) acc' items.size → R (.ok (.ret .none)) { s with heap := h', toks := tk }) :
    wpAny (model prog w) A.in1 (Builtin.«list.__init__» ⟨[.ref S, .ref it], []⟩)
      (fun fin s' => match fin with | .done f => R (.ok f) s' | .again c' => c'.quiet = true ∧ codeAny (model prog w) A c' R s') (fun e s' => R (.error e) s') s := by
  show wpAny _ _ (do let old ← Builtin.List.listItems (.ref S); Builtin.List.listUpdate (.ref S) (fun _ => #[]); letGo old.toList.reverse; Builtin.List.listExtendWith (.ref S) (.ref it) .none) _ _ s
  refine wpAny_bind ?_
  unfold Builtin.List.listItems
  refine wpAny_bind (wpAny_seqItems hS rfl (wpAny_pure ?_))
  show wpAny _ _ (updateSeq S (fun _ => #[]) >>= fun _ => letGo (#[] : Array Value).toList.reverse >>= fun _ => Builtin.List.listExtendWith (.ref S) (.ref it) .none) _ _ s
  refine wpAny_bind (wpAny_updateSeq hS rfl ?_)
  have hS₂ := Heap.get?_update_self (Obj.mapSeq (fun _ => (#[] : Array Value))) hS rfl
  have oth : ∀ b o, b ≠ S → s.heap.get? b = some o → (s.heap.update S (Obj.mapSeq (fun _ => (#[] : Array Value)))).get? b = some o :=
    fun b o hb e => (Heap.get?_update_other _ _ (Ne.symm hb)).trans e
  refine wpAny_bind (wpAny_letGo ?_)
  refine ext_rev (s := { s with heap := s.heap.update S (Obj.mapSeq (fun _ => (#[] : Array Value))) }) hh (hit.at fun o e => oth it o (Ne.symm hSi) e) ?_ hne hn S .none _ hS₂ hSi hSl fun h' tk acc' c' hk hS' hacc => ?_
  · obtain ⟨o, e, q⟩ := hl
    exact ⟨o, oth l o (Ne.symm hSl) e, q⟩
  · exact hR h' tk acc' c' (fun b o hb hb2 e => hk b o hb hb2 (oth b o hb e)) hS' hacc
theorem call_list_rev {it l : Addr} {items : Array Value} {Q : Value → Shared → Prop} (hh : A.handled = none) (hit : s.heap.IsRevIter it l ((items.size : Int) - 1)) (hl : s.heap.IsList l items) (hne : l ≠ it) (hn : items.size ≤ sizeLine)
    (hQ : ∀ (h' : Heap) (tk : Nat) (acc' : Array Value) (c' : Nat), (∀ b o, b ≠ it → s.heap.get? b = some o → h'.get? b = some o) →
      h'.get? s.heap.objs.size = some { cls := .type "list", dict := none, data := .seq acc' c', slots := #[] } → ItemsOf (fun i v => items[items.size - 1 - i]? = some v) acc' items.size → Q (.ref s.heap.objs.size) { s with heap := h', toks := tk }) :
    wpAny (model prog w) A (call (.type "list") [.ref it]) Q E s := by
  obtain ⟨oi, hoi, _⟩ := id hit
  obtain ⟨ol, hol, _⟩ := id hl
  refine callType_codes (Q₁ := fun obj s₁ => obj = .ref s.heap.objs.size ∧ s₁ = { s with heap := s.heap.push { cls := .type "list", data := .seq #[] } }) F.called_list (F.typeCall_list_1 _) F.entry_list_init
    (code_list_new _ ⟨rfl, rfl⟩) fun obj s₁ h₁ => ?_
  obtain ⟨rfl, rfl⟩ := h₁
  have hS : (s.heap.push { cls := .type "list", data := .seq #[] }).get? s.heap.objs.size = some { cls := .type "list", data := .seq #[] } := Heap.get?_push_size _ rfl
  refine ⟨⟨_, hS, rfl⟩, F.args_list_init_2 _ _, init_rev (A := A.in1) (s := { s with heap := s.heap.push { cls := .type "list", data := .seq #[] } }) hh (hit.at fun o e => Heap.get?_push_of_some _ e) (hl.push _) hne hn _ hS (Nat.ne_of_gt (Heap.lt_size hoi)) (Nat.ne_of_gt (Heap.lt_size hol)) fun h' tk acc' c' hk hS' hacc => ?_⟩
  exact ⟨rfl, hQ h' tk acc' c' (fun b o hb e => hk b o (Nat.ne_of_lt (Heap.lt_size e)) hb (Heap.get?_push_of_some _ e)) hS' hacc⟩
end
theorem pe_listRev {X : Cx} {e : Expr} {te : TE} {p p2 pos pos2 : Pos} (hc : X.calm = true) (hg : Gl X "list") (hm : X.mg "list" = none) (hg2 : Gl X "reversed") (hm2 : X.mg "reversed" = none) (he : PE X e te)
    (hs : starEach [e] X.env = (false, eval e X.env) :: starEach [] X.env := by rfl)
    (hs2 : starEach [.Call (.Name "reversed" p2) [e] [] pos2] X.env = (false, eval (.Call (.Name "reversed" p2) [e] [] pos2) X.env) :: starEach [] X.env := by rfl) :
    PE X (.Call (.Name "list" p) [.Call (.Name "reversed" p2) [e] [] pos2] [] pos) (tListRev X.K te) := by
  refine ⟨fun pins s σ H Q I h => ?_⟩
  refine Call_ (ld_blt I hg hm PyProof.Rows.boot_list (PyProof.Rows.callWith_type1 (args_cons (Call_ (ld_blt I hg2 hm2 PyProof.Rows.boot_reversed (PyProof.Rows.callWith_type1 (args_cons (thn (he.run pins s σ H _ I h) fun u s1 ⟨v, H1, I1, r1, q1⟩ => args_nil ?_) hs) hs rfl))) hs2) hs2 rfl))
  obtain ⟨a, xs, ev, hq, q⟩ := q1
  subst ev
  obtain rfl : u = Value.ref a := r1
  obtain ⟨its, rv, p', hz⟩ := I1.list hq
  refine call_reversed_list p'.isList (args_nil ?_)
  have k0 : ∀ b o, s1.heap.get? b = some o → (s1.heap.push (revObj a ((its.toArray.size : Int) - 1))).get? b = some o := fun b o e => Heap.get?_push_of_some _ e
  have I2 : Inv X pins σ H1 { s1 with heap := s1.heap.push (revObj a ((its.toArray.size : Int) - 1)) } := I1.kept (t' := s1.toks) k0
  obtain ⟨f0, f1, f2, f3, f4, f5⟩ := I1.fpOk (H' := H1) (b := s1.heap.objs.size) (Nat.le_refl _) (I1.hok.fresh (Nat.le_refl _))
  have hl := p'.isList
  obtain ⟨ol, hol, _⟩ := id hl
  have hne : a ≠ s1.heap.objs.size := Nat.ne_of_lt (Heap.lt_size hol)
  have hn : its.toArray.size ≤ sizeLine := by rw [List.size_toArray, ← rv.length]; exact hz
  refine call_list_rev (s := { s1 with heap := s1.heap.push (revObj a ((its.toArray.size : Int) - 1)) }) (I1.ok.hd hc) ⟨_, Heap.get?_push_size _ rfl, rfl, rfl⟩ (hl.push _) hne hn fun h' tk acc c' hk hS hi => ?_
  have hit0 : H1 s1.heap.objs.size = none := I1.hok.fresh (Nat.le_refl _)
  have hS0 : H1 (s1.heap.push (revObj a ((its.toArray.size : Int) - 1))).objs.size = none := I2.hok.fresh (Nat.le_refl _)
  have hSit : s1.heap.objs.size ≠ (s1.heap.push (revObj a ((its.toArray.size : Int) - 1))).objs.size := by rw [Heap.size_push]; omega
  generalize hS2 : (s1.heap.push (revObj a ((its.toArray.size : Int) - 1))).objs.size = S at *
  have hn3 : ((s1.heap.push (revObj a ((its.toArray.size : Int) - 1))).push { cls := .type "list", data := .seq #[] }).get? S = some { cls := .type "list", data := .seq #[] } := by
    rw [← hS2]
    exact Heap.get?_push_size _ rfl
  have I3 : Inv X pins σ (upd H1 S (.lst [])) { s1 with heap := (s1.heap.push (revObj a ((its.toArray.size : Int) - 1))).push { cls := .type "list", data := .seq #[] } } :=
    I2.laid (t' := s1.toks) (fun b o e => Heap.get?_push_of_some _ e) (Nat.le_of_eq hS2) (show ObjOk X.prog X.w _ _ _ (.lst []) from ⟨Nat.zero_le _, [], 0, .nil, hn3⟩)
  have hn4 := Heap.get?_update_self (fun _ => ({ cls := .type "list", dict := none, data := .seq acc c', slots := #[] } : Obj)) hn3 rfl
  have I4 : Inv X pins σ (upd (upd H1 S (.lst [])) S (.lst xs.reverse)) { s1 with heap := ((s1.heap.push (revObj a ((its.toArray.size : Int) - 1))).push { cls := .type "list", data := .seq #[] }).update S (fun _ => ({ cls := .type "list", dict := none, data := .seq acc c', slots := #[] } : Obj)) } :=
    I3.write (t' := s1.toks) (x := S) (e := S) (by rw [upd_same]; trivial) (.inl rfl) (fun b u hb e => (Heap.get?_update_other _ _ (Ne.symm hb)).trans e) ⟨_, hn4⟩
      (show ObjOk X.prog X.w _ _ _ (.lst xs.reverse) from ⟨by rw [List.length_reverse]; exact hz, acc.toList, c', RT.vals_rev rv hi, by rw [Array.toArray_toList]; exact hn4⟩)
  rw [upd_upd] at I4
  have hnS : (upd H1 S (.lst xs.reverse)) s1.heap.objs.size = none := by rw [upd_ne hSit]; exact hit0
  obtain ⟨f0, f1, f2, f3, f4, f5⟩ := I1.fpOk (H' := upd H1 S (.lst xs.reverse)) (b := s1.heap.objs.size) (Nat.le_refl _) hnS
  have I5 : Inv X pins σ (upd H1 S (.lst xs.reverse)) { s1 with heap := h', toks := tk } := Inv.turned (s := { s1 with heap := ((s1.heap.push (revObj a ((its.toArray.size : Int) - 1))).push { cls := .type "list", data := .seq #[] }).update S (fun _ => ({ cls := .type "list", dict := none, data := .seq acc c', slots := #[] } : Obj)) }) (t' := tk) (it := s1.heap.objs.size) I4 (fun b o hb e => by
    by_cases hbS : b = S
    · subst hbS
      rw [hn4] at e
      rw [hS]
      exact e
    · have e2 := (Heap.get?_update_other _ _ (Ne.symm hbS)).symm.trans e
      rcases Heap.get?_push_cases e2 with ⟨z, _⟩ | z
      · exact absurd (z.trans hS2) hbS
      · exact hk b o hb z) f0 f1 f3 f4 f5
  exact ⟨.ref S, _, I5, rfl, q _ hS0⟩

/-! ### lists that fall -/
def insD (x : Int) : List Int → List Int
  | [] => [x]
  | y :: r => if y > x then y :: insD x r else x :: y :: r
def fall : List Int → List Int
  | [] => []
  | x :: r => insD x (fall r)
abbrev Falls (l : List Int) : Prop := l.Pairwise (· ≥ ·)
theorem insD_perm (x : Int) : ∀ l : List Int, (insD x l).Perm (x :: l)
  | [] => .refl _
  | y :: r => by
    unfold insD
    split
    · exact ((insD_perm x r).cons y).trans (.swap x y r)
    · exact .refl _
theorem insD_mem {x z : Int} {l : List Int} : z ∈ insD x l ↔ z = x ∨ z ∈ l := by
  rw [(insD_perm x l).mem_iff, List.mem_cons]
theorem insD_falls {x : Int} : ∀ {l : List Int}, Falls l → Falls (insD x l)
  | [], _ => List.pairwise_singleton _ _
  | y :: r, h => by
    obtain ⟨h1, h2⟩ := List.pairwise_cons.mp h
    unfold insD
    split
    · rename_i c
      refine List.pairwise_cons.mpr ⟨fun z hz => ?_, insD_falls h2⟩
      rcases insD_mem.mp hz with rfl | hz
      · exact Int.le_of_lt c
      · exact h1 z hz
    · rename_i c
      refine List.pairwise_cons.mpr ⟨fun z hz => ?_, h⟩
      rcases List.mem_cons.mp hz with rfl | hz
      · show z ≤ x
        omega
      · have := h1 z hz
        show z ≤ x
        omega
theorem fall_perm : ∀ l : List Int, (fall l).Perm l
  | [] => .refl _
  | x :: r => (insD_perm x _).trans ((fall_perm r).cons x)
theorem fall_falls : ∀ l : List Int, Falls (fall l)
  | [] => List.Pairwise.nil
  | _ :: r => insD_falls (fall_falls r)
theorem falls_unique : ∀ {l m : List Int}, l.Perm m → Falls l → Falls m → l = m
  | [], m, h, _, _ => (List.nil_perm.mp h).symm
  | x :: l, [], h, _, _ => absurd h.length_eq (by simp)
  | x :: l, y :: m, h, hl, hm => by
    obtain ⟨a1, a2⟩ := List.pairwise_cons.mp hl
    obtain ⟨b1, b2⟩ := List.pairwise_cons.mp hm
    have e : x = y := by
      have hx : x ∈ y :: m := h.mem_iff.mp (List.mem_cons_self ..)
      have hy : y ∈ x :: l := h.mem_iff.mpr (List.mem_cons_self ..)
      rcases List.mem_cons.mp hx with e | hx
      · exact e
      · rcases List.mem_cons.mp hy with e | hy
        · exact e.symm
        · have p := b1 x hx
          have q := a1 y hy
          omega
    subst e
    rw [falls_unique ((List.perm_cons x).mp h) a2 b2]
theorem fall_eq {l m : List Int} (h : m.Perm l) (hm : Falls m) : m = fall l := falls_unique (h.trans (fall_perm l).symm) hm (fall_falls l)
theorem fall_self {l : List Int} (h : Falls l) : fall l = l := (fall_eq (.refl _) h).symm
theorem fall_length (l : List Int) : (fall l).length = l.length := (fall_perm l).length_eq
theorem perm_sum : ∀ {l m : List Int}, l.Perm m → l.sum = m.sum := fun h => by
  induction h with
  | nil => rfl
  | cons x _ ih => rw [List.sum_cons, List.sum_cons, ih]
  | swap x y l => simp only [List.sum_cons]; omega
  | trans _ _ a b => exact a.trans b
theorem fall_sum (l : List Int) : (fall l).sum = l.sum := perm_sum (fall_perm l)
/-! ### settings -/
structure Good (ns : List Int) : Prop where
  pos : ∀ x ∈ ns, 1 ≤ x
  falls : Falls ns
  ne : ns ≠ []
theorem len_le_sum : ∀ {ns : List Int}, (∀ x ∈ ns, 1 ≤ x) → (ns.length : Int) ≤ ns.sum
  | [], _ => Int.le_refl 0
  | x :: r, h => by
    have h1 := h x (List.mem_cons_self ..)
    have ih := len_le_sum (ns := r) fun z hz => h z (List.mem_cons_of_mem _ hz)
    rw [List.sum_cons, List.length_cons]
    omega
theorem mem_le_sum : ∀ {ns : List Int}, (∀ x ∈ ns, 0 ≤ x) → ∀ x ∈ ns, x ≤ ns.sum
  | y :: r, h, x, hx => by
    have h1 := h y (List.mem_cons_self ..)
    have h2 : ∀ z ∈ r, 0 ≤ z := fun z hz => h z (List.mem_cons_of_mem _ hz)
    have h3 : 0 ≤ r.sum := by
      clear hx
      induction r with
      | nil => exact Int.le_refl 0
      | cons a t ih =>
        rw [List.sum_cons]
        have q1 := h2 a (List.mem_cons_self ..)
        have q2 := ih (fun z hz => h z (by rcases List.mem_cons.mp hz with e | e <;> simp [e])) fun z hz => h2 z (List.mem_cons_of_mem _ hz)
        omega
    rw [List.sum_cons]
    rcases List.mem_cons.mp hx with rfl | hx
    · omega
    · have q := mem_le_sum h2 x hx
      omega
/-- a setting of n coins -/
def IsSet (n : Int) (ns : List Int) : Prop := Good ns ∧ ns.sum = n
theorem IsSet.len {n : Int} {ns : List Int} (h : IsSet n ns) : (ns.length : Int) ≤ n := by
  have := len_le_sum h.1.pos
  rw [h.2] at this
  exact this
theorem IsSet.le {n : Int} {ns : List Int} (h : IsSet n ns) {x : Int} (hx : x ∈ ns) : x ≤ n := by
  have := mem_le_sum (fun z hz => by have := h.1.pos z hz; omega) x hx
  rw [h.2] at this
  exact this
theorem IsSet.ne {n : Int} {ns : List Int} (h : IsSet n ns) : 0 < ns.length := List.length_pos_iff.mpr h.1.ne
/-! ### a turn -/
def down1 (ns : List Int) : List Int := (ns.filter fun z => decide (z > 1)).map (· - 1)
def turn (ns : List Int) : List Int := insD ns.length (down1 ns)
theorem down1_cons (x : Int) (r : List Int) : down1 (x :: r) = if x > 1 then (x - 1) :: down1 r else down1 r := by
  unfold down1
  rw [List.filter_cons]
  by_cases c : x > 1
  · rw [if_pos c, if_pos (decide_eq_true c)] <;> rfl
  · rw [if_neg c, if_neg (by simp only [decide_eq_true_eq]; exact c)]
theorem mem_down1 {z : Int} {ns : List Int} : z ∈ down1 ns ↔ z + 1 ∈ ns ∧ 1 ≤ z := by
  unfold down1
  simp only [List.mem_map, List.mem_filter, decide_eq_true_eq]
  constructor
  · rintro ⟨y, ⟨h1, h2⟩, rfl⟩
    exact ⟨by rw [show y - 1 + 1 = y by omega]; exact h1, by omega⟩
  · rintro ⟨h1, h2⟩
    exact ⟨z + 1, ⟨h1, by omega⟩, by omega⟩
theorem down1_falls {ns : List Int} (h : Falls ns) : Falls (down1 ns) := by
  induction ns with
  | nil => exact List.Pairwise.nil
  | cons x r ih =>
    obtain ⟨h1, h2⟩ := List.pairwise_cons.mp h
    rw [down1_cons]
    split
    · refine List.pairwise_cons.mpr ⟨fun z hz => ?_, ih h2⟩
      have := h1 _ (mem_down1.mp hz).1
      show z ≤ x - 1
      omega
    · exact ih h2
theorem down1_sum {ns : List Int} (h : ∀ x ∈ ns, 1 ≤ x) : (down1 ns).sum + ns.length = ns.sum := by
  induction ns with
  | nil => rfl
  | cons x r ih =>
    have h1 := h x (List.mem_cons_self ..)
    have ih := ih fun z hz => h z (List.mem_cons_of_mem _ hz)
    rw [down1_cons]
    split
    · rw [List.sum_cons, List.sum_cons, List.length_cons]; omega
    · rw [List.sum_cons, List.length_cons]; omega
theorem down1_length (ns : List Int) : (down1 ns).length ≤ ns.length := by
  unfold down1
  rw [List.length_map]
  exact List.length_filter_le _ _
theorem turn_perm (ns : List Int) : (turn ns).Perm (down1 ns ++ [(ns.length : Int)]) := (insD_perm _ _).trans (List.perm_append_comm (l₁ := [(ns.length : Int)]) (l₂ := down1 ns))
theorem turn_eq {ns : List Int} (h : Falls ns) : turn ns = fall (down1 ns ++ [(ns.length : Int)]) := fall_eq (turn_perm ns) (insD_falls (down1_falls h))
theorem turn_set {n : Int} {ns : List Int} (h : IsSet n ns) : IsSet n (turn ns) := by
  refine ⟨⟨fun x hx => ?_, insD_falls (down1_falls h.1.falls), fun e => ?_⟩, ?_⟩
  · rcases insD_mem.mp hx with rfl | hx
    · have := h.ne
      omega
    · exact (mem_down1.mp hx).2
  · have : (turn ns).length = (down1 ns).length + 1 := (insD_perm _ _).length_eq
    rw [e] at this
    simp at this
  · rw [show (turn ns).sum = _ from perm_sum (insD_perm _ _), List.sum_cons]
    have := down1_sum h.1.pos
    rw [h.2] at this
    omega
theorem turn_length (ns : List Int) : (turn ns).length ≤ ns.length + 1 := by
  have : (turn ns).length = (down1 ns).length + 1 := (insD_perm _ _).length_eq
  have := down1_length ns
  omega

/-! ### the stair -/
def stairUp : Nat → Nat → Nat → Nat
  | 0, s, _ => s
  | f + 1, s, n => if s * (s + 1) < 2 * n then stairUp f (s + 1) n else s
def stair (n : Nat) : Nat := stairUp n 1 n
theorem sq_mono {a b : Nat} (h : a ≤ b) : a * (a + 1) ≤ b * (b + 1) := Nat.mul_le_mul h (Nat.succ_le_succ h)
theorem le_sq (a : Nat) : a ≤ a * (a + 1) := Nat.le_mul_of_pos_right a (Nat.succ_pos a)
theorem stairUp_spec : ∀ (f s n : Nat), n ≤ f + s → 1 ≤ s → (s - 1) * s < 2 * n → 1 ≤ stairUp f s n ∧ (stairUp f s n - 1) * stairUp f s n < 2 * n ∧ 2 * n ≤ stairUp f s n * (stairUp f s n + 1)
  | 0, s, n, h, h1, h2 => by
    refine ⟨h1, h2, ?_⟩
    show 2 * n ≤ s * (s + 1)
    have : s * 2 ≤ s * (s + 1) := Nat.mul_le_mul_left s (by omega)
    omega
  | f + 1, s, n, h, h1, h2 => by
    unfold stairUp
    split
    · rename_i c
      exact stairUp_spec f (s + 1) n (by omega) (by omega) (by rw [Nat.add_sub_cancel]; exact c)
    · rename_i c
      exact ⟨h1, h2, by omega⟩
theorem stair_spec {n : Nat} (h : 1 ≤ n) : 1 ≤ stair n ∧ (stair n - 1) * stair n < 2 * n ∧ 2 * n ≤ stair n * (stair n + 1) := stairUp_spec n 1 n (by omega) (Nat.le_refl _) (by omega)
theorem stair_uniq {n s : Nat} (h : 1 ≤ n) (h1 : 1 ≤ s) (h2 : (s - 1) * s < 2 * n) (h3 : 2 * n ≤ s * (s + 1)) : s = stair n := by
  obtain ⟨a, b, c⟩ := stair_spec h
  generalize stair n = t at *
  rcases Nat.lt_trichotomy s t with l | e | l
  · have := sq_mono (show s ≤ t - 1 by omega)
    rw [show t - 1 + 1 = t by omega] at this
    omega
  · exact e
  · have := sq_mono (show t ≤ s - 1 by omega)
    rw [show s - 1 + 1 = s by omega] at this
    omega
theorem stair_le {n : Nat} (h : 1 ≤ n) {b : Nat} (hb : 2 * n ≤ b * (b + 1)) (h1 : 1 ≤ b) : stair n ≤ b := by
  obtain ⟨_, b1, _⟩ := stair_spec h
  rcases Nat.lt_or_ge b (stair n) with l | l
  · have := sq_mono (show b ≤ stair n - 1 by omega)
    rw [show stair n - 1 + 1 = stair n by omega] at this
    omega
  · exact l
/-- the ones of n coins' marks -/
def restOf (n : Nat) : Nat := n - stair n * (stair n - 1) / 2
theorem half_sq (s : Nat) : 2 * (s * (s + 1) / 2) = s * (s + 1) := by
  have h : s * (s + 1) % 2 = 0 := by
    rcases Nat.mod_two_eq_zero_or_one s with e | e
    · rw [Nat.mul_mod, e, Nat.zero_mul]
    · rw [Nat.mul_mod, Nat.add_mod, e]
  omega
theorem half_sq' {s : Nat} (h : 1 ≤ s) : 2 * (s * (s - 1) / 2) = s * (s - 1) := by
  have := half_sq (s - 1)
  rw [show s - 1 + 1 = s by omega, Nat.mul_comm (s - 1) s] at this
  exact this
theorem rest_spec {n : Nat} (h : 1 ≤ n) : 1 ≤ restOf n ∧ restOf n ≤ stair n ∧ n = stair n * (stair n - 1) / 2 + restOf n := by
  obtain ⟨a, b, c⟩ := stair_spec h
  have e := half_sq' a
  unfold restOf
  have d : stair n * (stair n + 1) = stair n * (stair n - 1) + 2 * stair n := by
    rw [← Nat.mul_comm (stair n) 2, ← Nat.mul_add]
    congr 1
    omega
  rw [Nat.mul_comm] at b
  omega
/-! ### marks -/
def mk : List Int → List Int
  | [] => []
  | m :: r => ((r.length : Int) + m) :: mk r
def ofMarks (ms : List Int) : List Int := (mk ms).filter fun z => decide (z > 0)
theorem mk_length : ∀ ms : List Int, (mk ms).length = ms.length
  | [] => rfl
  | _ :: r => congrArg (· + 1) (mk_length r)
theorem mk_get : ∀ {ms : List Int} {i : Nat} {m : Int}, ms[i]? = some m → (mk ms)[i]? = some ((ms.length : Int) - 1 - i + m)
  | [], _, _, h => by simp at h
  | a :: r, 0, m, h => by
    have e : a = m := Option.some.inj h
    subst e
    show some ((r.length : Int) + a) = some (((r.length + 1 : Nat) : Int) - 1 - ((0 : Nat) : Int) + a)
    congr 1
    omega
  | a :: r, i + 1, m, h => by
    have ih := mk_get (ms := r) (i := i) (m := m) h
    show (mk r)[i]? = some (((r.length + 1 : Nat) : Int) - 1 - ((i + 1 : Nat) : Int) + m)
    rw [ih]
    congr 1
    omega
/-- noughts and ones -/
def Bits (ms : List Int) : Prop := ∀ m ∈ ms, m = 0 ∨ m = 1
theorem mk_bits : ∀ {ms : List Int}, Bits ms → (∀ z ∈ mk ms, 0 ≤ z ∧ z ≤ ms.length) ∧ Falls (mk ms)
  | [], _ => ⟨fun _ h => (by cases h), List.Pairwise.nil⟩
  | m :: r, h => by
    have hm := h m (List.mem_cons_self ..)
    obtain ⟨h1, h2⟩ := mk_bits (ms := r) fun z hz => h z (List.mem_cons_of_mem _ hz)
    refine ⟨fun z hz => ?_, List.pairwise_cons.mpr ⟨fun z hz => ?_, h2⟩⟩
    · rw [List.length_cons]
      rcases List.mem_cons.mp hz with rfl | hz
      · omega
      · have := h1 z hz
        omega
    · have := h1 z hz
      show z ≤ (r.length : Int) + m
      omega
theorem mk_sum : ∀ ms : List Int, (mk ms).sum = ((ms.length * (ms.length - 1) / 2 : Nat) : Int) + ms.sum
  | [] => rfl
  | m :: r => by
    have ih := mk_sum r
    show ((r.length : Int) + m) + (mk r).sum = _
    rw [ih, List.sum_cons, List.length_cons]
    have e1 := half_sq r.length
    have e2 : 2 * (r.length * (r.length - 1) / 2) = r.length * (r.length - 1) := by
      rcases Nat.eq_zero_or_pos r.length with e | e
      · rw [e]
      · exact half_sq' e
    rw [Nat.add_sub_cancel, Nat.mul_comm (r.length + 1) r.length]
    have e3 : r.length * (r.length + 1) = r.length * (r.length - 1) + 2 * r.length := by
      rcases Nat.eq_zero_or_pos r.length with e | e
      · rw [e]
      · rw [← Nat.mul_comm r.length 2, ← Nat.mul_add]
        congr 1
        omega
    omega
theorem filter_pos_sum : ∀ {l : List Int}, (∀ z ∈ l, 0 ≤ z) → (l.filter fun z => decide (z > 0)).sum = l.sum
  | [], _ => rfl
  | x :: r, h => by
    have h1 := h x (List.mem_cons_self ..)
    have ih := filter_pos_sum (l := r) fun z hz => h z (List.mem_cons_of_mem _ hz)
    rw [List.filter_cons]
    by_cases c : x > 0
    · rw [if_pos (decide_eq_true c), List.sum_cons, List.sum_cons, ih]
    · rw [if_neg (by simp only [decide_eq_true_eq]; exact c), List.sum_cons, ih]
      omega
theorem ofMarks_set {n : Nat} (hn : 1 ≤ n) {ms : List Int} (hb : Bits ms) (hl : ms.length = stair n) (hs : ms.sum = (restOf n : Int)) : IsSet n (ofMarks ms) := by
  obtain ⟨h1, h2⟩ := mk_bits hb
  have hsum : (ofMarks ms).sum = (n : Int) := by
    unfold ofMarks
    rw [filter_pos_sum fun z hz => (h1 z hz).1, mk_sum, hs, hl]
    have := (rest_spec hn).2.2
    omega
  refine ⟨⟨fun x hx => ?_, ?_, fun e => ?_⟩, hsum⟩
  · have := of_decide_eq_true (List.mem_filter.mp hx).2
    omega
  · exact List.Pairwise.filter _ h2
  · rw [e] at hsum
    have : (0 : Int) = n := hsum
    omega
/-! ### elders: what the pile at a place was not yet -/
def elderAt (ns : List Int) (j : Nat) (p : Int) : List Int := ((ns.take j ++ ns.drop (j + 1)).map (· + 1)) ++ List.replicate (p - ((ns.length : Int) - 1)).toNat 1
theorem sum_replicate (n : Nat) : (List.replicate n (1 : Int)).sum = n := by
  induction n with
  | zero => rfl
  | succ n ih => rw [List.replicate_succ, List.sum_cons, ih]; omega
theorem sum_map_add1 : ∀ l : List Int, (l.map (· + 1)).sum = l.sum + l.length
  | [] => rfl
  | x :: r => by
    have ih := sum_map_add1 r
    rw [List.map_cons, List.sum_cons, List.sum_cons, ih, List.length_cons]
    omega
theorem take_drop_sum : ∀ {ns : List Int} {j : Nat} {p : Int}, ns[j]? = some p → (ns.take j ++ ns.drop (j + 1)).sum + p = ns.sum ∧ (ns.take j ++ ns.drop (j + 1)).length + 1 = ns.length
  | [], _, _, h => by simp at h
  | a :: r, 0, p, h => by
    have e : a = p := Option.some.inj h
    subst e
    refine ⟨?_, rfl⟩
    show r.sum + a = (a :: r).sum
    rw [List.sum_cons]
    omega
  | a :: r, j + 1, p, h => by
    obtain ⟨h1, h2⟩ := take_drop_sum (ns := r) (j := j) (p := p) h
    refine ⟨?_, ?_⟩
    · show (a :: (r.take j ++ r.drop (j + 1))).sum + p = (a :: r).sum
      rw [List.sum_cons, List.sum_cons]
      omega
    · show (r.take j ++ r.drop (j + 1)).length + 1 + 1 = r.length + 1
      omega
theorem take_drop_sub (ns : List Int) (j : Nat) : (ns.take j ++ ns.drop (j + 1)).Sublist ns := by
  have h := (List.Sublist.refl (ns.take j)).append (List.drop_sublist 1 (ns.drop j))
  rw [List.take_append_drop, List.drop_drop] at h
  exact h
theorem elder_set {n : Int} {ns : List Int} (h : IsSet n ns) {j : Nat} {p : Int} (hp : ns[j]? = some p) (hb : p ≥ (ns.length : Int) - 1) : IsSet n (elderAt ns j p) := by
  obtain ⟨s1, s2⟩ := take_drop_sum hp
  have sub := take_drop_sub ns j
  have h1 := h.1.pos p (List.mem_of_getElem? hp)
  refine ⟨⟨fun x hx => ?_, ?_, fun e => ?_⟩, ?_⟩
  · rcases List.mem_append.mp hx with hx | hx
    · obtain ⟨y, hy, rfl⟩ := List.mem_map.mp hx
      have := h.1.pos y (sub.subset hy)
      omega
    · rw [List.eq_of_mem_replicate hx]
      exact Int.le_refl 1
  · refine List.pairwise_append.mpr ⟨?_, ?_, fun a ha b hb => ?_⟩
    · rw [List.pairwise_map]
      exact (h.1.falls.sublist sub).imp fun h => by omega
    · exact List.pairwise_replicate.mpr (.inr (Int.le_refl 1))
    · obtain ⟨y, hy, rfl⟩ := List.mem_map.mp ha
      have := h.1.pos y (sub.subset hy)
      rw [List.eq_of_mem_replicate hb]
      omega
  · have := congrArg List.length e
    unfold elderAt at this
    rw [List.length_append, List.length_map, List.length_replicate, List.length_nil] at this
    omega
  · unfold elderAt
    rw [List.sum_append, sum_map_add1, sum_replicate]
    have := h.2
    omega

/-! ### marks of a setting, rings -/
def marksAt (S : Nat) (ns : List Int) : List Int := (List.range S).map fun k : Nat => ns.getD k 0 - ((S : Int) - 1 - (k : Int))
def isBits (ms : List Int) : Bool := ms.all fun m => decide (0 ≤ m ∧ m ≤ 1)
def marksBy (ns : List Int) : List Int :=
  if stair ns.sum.toNat < ns.length then [] else if isBits (marksAt (stair ns.sum.toNat) ns) = true then marksAt (stair ns.sum.toNat) ns else []
theorem isBits_iff {ms : List Int} : isBits ms = true ↔ Bits ms := by
  unfold isBits Bits
  rw [List.all_eq_true]
  constructor
  · intro h m hm
    have := of_decide_eq_true (h m hm)
    omega
  · intro h m hm
    have := h m hm
    exact decide_eq_true (by omega)
theorem filter_pos_getD : ∀ {l : List Int} (k : Nat), (∀ z ∈ l, 0 ≤ z) → Falls l → (l.filter fun z => decide (z > 0)).getD k 0 = l.getD k 0
  | [], _, _, _ => rfl
  | x :: r, k, h, hf => by
    obtain ⟨f1, f2⟩ := List.pairwise_cons.mp hf
    have hr : ∀ z ∈ r, 0 ≤ z := fun z hz => h z (List.mem_cons_of_mem _ hz)
    rw [List.filter_cons]
    by_cases c : x > 0
    · rw [if_pos (decide_eq_true c)]
      cases k with
      | zero => rfl
      | succ k => exact filter_pos_getD k hr f2
    · rw [if_neg (by simp only [decide_eq_true_eq]; exact c)]
      have hx := h x (List.mem_cons_self ..)
      have hz : ∀ z ∈ r, z = 0 := fun z hz => by
        have a := f1 z hz
        have b := hr z hz
        omega
      have e : r.filter (fun z => decide (z > 0)) = [] := List.filter_eq_nil_iff.mpr fun z hz' => by
        rw [hz z hz']
        decide
      rw [e]
      cases k with
      | zero =>
        show (0 : Int) = x
        omega
      | succ k =>
        show (0 : Int) = r.getD k 0
        rw [List.getD_eq_getElem?_getD]
        cases hk : r[k]? with
        | none => rfl
        | some z =>
          rw [hz z (List.mem_of_getElem? hk)]
          rfl
theorem bits_sum_range : ∀ {ms : List Int}, Bits ms → 0 ≤ ms.sum ∧ ms.sum ≤ ms.length
  | [], _ => ⟨Int.le_refl _, Int.le_refl _⟩
  | m :: r, h => by
    have hm := h m (List.mem_cons_self ..)
    have ih := bits_sum_range (ms := r) fun z hz => h z (List.mem_cons_of_mem _ hz)
    rw [List.sum_cons, List.length_cons]
    omega
theorem ofMarks_sum {ms : List Int} (h : Bits ms) : (ofMarks ms).sum = ((ms.length * (ms.length - 1) / 2 : Nat) : Int) + ms.sum := by
  unfold ofMarks
  rw [filter_pos_sum fun z hz => ((mk_bits h).1 z hz).1, mk_sum]
theorem ofMarks_stair {ms : List Int} (h : Bits ms) (h1 : 1 ≤ ms.sum) : stair (ofMarks ms).sum.toNat = ms.length := by
  obtain ⟨b0, b1⟩ := bits_sum_range h
  have hl : 1 ≤ ms.length := by omega
  have e := ofMarks_sum h
  have e2 := half_sq' hl
  have e3 : ms.length * (ms.length + 1) = ms.length * (ms.length - 1) + 2 * ms.length := by
    rw [← Nat.mul_comm ms.length 2, ← Nat.mul_add]
    congr 1
    omega
  refine (stair_uniq (by omega) hl ?_ ?_).symm
  · rw [Nat.mul_comm]
    omega
  · omega
theorem ofMarks_len {ms : List Int} : (ofMarks ms).length ≤ ms.length := by
  have := List.length_filter_le (fun z => decide (z > 0)) (mk ms)
  rw [mk_length] at this
  exact this
theorem ofMarks_isSet {ms : List Int} (h : Bits ms) (h1 : 1 ≤ ms.sum) : IsSet (ofMarks ms).sum (ofMarks ms) := by
  obtain ⟨k1, k2⟩ := mk_bits h
  refine ⟨⟨fun x hx => ?_, List.Pairwise.filter _ k2, fun e => ?_⟩, rfl⟩
  · have := of_decide_eq_true (List.mem_filter.mp hx).2
    omega
  · have := ofMarks_sum h
    rw [e] at this
    have : (0 : Int) = ((ms.length * (ms.length - 1) / 2 : Nat) : Int) + ms.sum := this
    omega
theorem marksBy_of {ms : List Int} (h : Bits ms) (h1 : 1 ≤ ms.sum) : marksBy (ofMarks ms) = ms := by
  have hs := ofMarks_stair h h1
  have hl := ofMarks_len (ms := ms)
  have e : marksAt ms.length (ofMarks ms) = ms := by
    apply List.ext_getElem?
    intro k
    unfold marksAt
    by_cases hk : k < ms.length
    · have gk : ms[k]? = some ms[k] := List.getElem?_eq_getElem hk
      obtain ⟨k1, k2⟩ := mk_bits h
      have hd : (ofMarks ms).getD k 0 = (ms.length : Int) - 1 - k + ms[k] := by
        unfold ofMarks
        rw [filter_pos_getD k (fun z hz => (k1 z hz).1) k2, List.getD_eq_getElem?_getD, mk_get gk] <;> rfl
      rw [List.getElem?_map, List.getElem?_range hk, gk]
      show some ((ofMarks ms).getD k 0 - ((ms.length : Int) - 1 - (k : Int))) = some ms[k]
      rw [hd]
      congr 1
      omega
    · rw [List.getElem?_eq_none (by rw [List.length_map, List.length_range]; omega), List.getElem?_eq_none (by omega)]
  unfold marksBy
  rw [hs, if_neg (by omega), e, if_pos (isBits_iff.mpr h)]
/-! ### a turn is a turning of the marks -/
theorem mk_snoc : ∀ (l : List Int) (z : Int), mk (l ++ [z]) = (mk l).map (· + 1) ++ [z]
  | [], z => by
    show [((0 : Nat) : Int) + z] = [z]
    congr 1
    omega
  | m :: r, z => by
    show (((r ++ [z]).length : Int) + m) :: mk (r ++ [z]) = ((r.length : Int) + m + 1) :: ((mk r).map (· + 1) ++ [z])
    rw [mk_snoc r z, List.length_append, List.length_singleton]
    congr 1
    omega
theorem turn_marks {l : List Int} {z : Int} (h : Bits (l ++ [z])) (h1 : 1 ≤ (l ++ [z]).sum) : turn (ofMarks (l ++ [z])) = ofMarks (z :: l) := by
  have hl : Bits l := fun m hm => h m (List.mem_append_left _ hm)
  have hz : z = 0 ∨ z = 1 := h z (List.mem_append_right _ (List.mem_singleton.mpr rfl))
  obtain ⟨k1, k2⟩ := mk_bits hl
  have hf : ((mk l).map (· + 1)).filter (fun x => decide (x > 0)) = (mk l).map (· + 1) := List.filter_eq_self.mpr fun x hx => by
    obtain ⟨y, hy, rfl⟩ := List.mem_map.mp hx
    have := (k1 y hy).1
    exact decide_eq_true (by omega)
  have e1 : ofMarks (l ++ [z]) = (mk l).map (· + 1) ++ [z].filter (fun x => decide (x > 0)) := by
    unfold ofMarks
    rw [mk_snoc, List.filter_append, hf]
  have hd : down1 (ofMarks (l ++ [z])) = ofMarks l := by
    rw [e1]
    unfold down1 ofMarks
    rw [List.filter_append, List.map_append, List.filter_map, List.map_map]
    have a : (mk l).filter ((fun z => decide (z > 1)) ∘ fun x => x + 1) = (mk l).filter fun x => decide (x > 0) := by
      congr 1
      funext x
      show decide (x + 1 > 1) = decide (x > 0)
      by_cases c : x > 0
      · rw [decide_eq_true c, decide_eq_true (by omega)]
      · rw [decide_eq_false c, decide_eq_false (by omega)]
    have b : ([z].filter (fun x => decide (x > 0))).filter (fun z => decide (z > 1)) = [] := by
      rcases hz with rfl | rfl <;> rfl
    rw [a, b, List.map_nil, List.append_nil]
    have c : (fun x : Int => x - 1) ∘ (fun x => x + 1) = id := by
      funext x
      show x + 1 - 1 = x
      omega
    rw [c, List.map_id]
  have hlen : ((ofMarks (l ++ [z])).length : Int) = (l.length : Int) + z := by
    rw [e1, List.length_append, List.length_map, mk_length]
    rcases hz with rfl | rfl
    · show ((l.length + 0 : Nat) : Int) = (l.length : Int) + 0
      omega
    · show ((l.length + 1 : Nat) : Int) = (l.length : Int) + 1
      omega
  have hpos : (l.length : Int) + z > 0 := by
    obtain ⟨b0, b1⟩ := bits_sum_range hl
    rw [List.sum_append, List.sum_cons, List.sum_nil] at h1
    omega
  unfold turn
  rw [hd, hlen]
  have e2 : ofMarks (z :: l) = ((l.length : Int) + z) :: ofMarks l := by
    show (((l.length : Int) + z) :: mk l).filter _ = _
    rw [List.filter_cons, if_pos (decide_eq_true hpos)] <;> rfl
  rw [e2]
  cases hol : ofMarks l with
  | nil => rfl
  | cons y r =>
    unfold insD
    rw [if_neg]
    have hy : y ∈ mk l := (List.mem_filter.mp (show y ∈ ofMarks l by rw [hol]; exact List.mem_cons_self ..)).1
    have := (k1 y hy).2
    omega
/-! ### turns one behind another -/
def turnN : Nat → List Int → List Int
  | 0, x => x
  | n + 1, x => turnN n (turn x)
theorem turnN_succ : ∀ (n : Nat) (x : List Int), turnN (n + 1) x = turn (turnN n x)
  | 0, _ => rfl
  | n + 1, x => turnN_succ n (turn x)
theorem turnN_add : ∀ (a b : Nat) (x : List Int), turnN (a + b) x = turnN a (turnN b x)
  | a, 0, x => rfl
  | a, b + 1, x => turnN_add a b (turn x)
theorem turnN_set {n : Int} : ∀ {j : Nat} {x : List Int}, IsSet n x → IsSet n (turnN j x)
  | 0, _, h => h
  | j + 1, _, h => turnN_set (j := j) (turn_set h)
/-- a ring of d settings from x on -/
structure Ring (x : List Int) (d : Nat) : Prop where
  pos : 1 ≤ d
  back : turnN d x = x
  first : ∀ j, 0 < j → j < d → turnN j x ≠ x
theorem Ring.inj {x : List Int} {d : Nat} (h : Ring x d) {i j : Nat} (hij : i < j) (hj : j < d) : turnN i x ≠ turnN j x := fun e => by
  have h1 : turnN (d - i) (turnN i x) = x := by
    rw [← turnN_add, show d - i + i = d by omega, h.back]
  have h2 : turnN (d - i) (turnN j x) = turnN (j - i) x := by
    rw [← turnN_add, show d - i + j = (j - i) + d by omega, turnN_add, h.back]
  rw [e, h2] at h1
  exact h.first (j - i) (by omega) (by omega) h1
theorem least_of {p : Nat → Prop} : ∀ n : Nat, p n → ∃ d, d ≤ n ∧ p d ∧ ∀ j, j < d → ¬ p j := fun n => by
  induction n using Nat.strongRecOn with
  | ind n ih =>
    intro hn
    by_cases h : ∃ j, j < n ∧ p j
    · obtain ⟨j, hj, hp⟩ := h
      obtain ⟨d, h1, h2, h3⟩ := ih j hj hp
      exact ⟨d, by omega, h2, h3⟩
    · exact ⟨n, Nat.le_refl _, hn, fun j hj hp => h ⟨j, hj, hp⟩⟩
theorem ring_ex {x : List Int} {S : Nat} (h1 : 1 ≤ S) (h : turnN S x = x) : ∃ d, d ≤ S ∧ Ring x d := by
  obtain ⟨d, a, ⟨b1, b2⟩, c⟩ := least_of (p := fun d => 1 ≤ d ∧ turnN d x = x) S ⟨h1, h⟩
  exact ⟨d, a, b1, b2, fun j h0 hj e => c j hj ⟨h0, e⟩⟩
/-- the settings of a ring -/
def ringL (d : Nat) (x : List Int) : List (List Int) := (List.range d).map fun j => turnN j x
theorem ringL_succ (d : Nat) (x : List Int) : ringL (d + 1) x = ringL d x ++ [turnN d x] := by
  unfold ringL
  rw [List.range_succ, List.map_append] <;> rfl
theorem ringL_len (d : Nat) (x : List Int) : (ringL d x).length = d := by
  unfold ringL
  rw [List.length_map, List.length_range]
theorem mem_ringL {d : Nat} {x y : List Int} : y ∈ ringL d x ↔ ∃ j, j < d ∧ turnN j x = y := by
  unfold ringL
  simp only [List.mem_map, List.mem_range]
/-! ### marks turned round -/
def rot : List Int → List Int := fun ms => ms.getLast?.toList ++ ms.dropLast
theorem rot_snoc (l : List Int) (z : Int) : rot (l ++ [z]) = z :: l := by
  unfold rot
  rw [List.getLast?_concat, List.dropLast_concat] <;> rfl
def rotN : Nat → List Int → List Int
  | 0, x => x
  | n + 1, x => rot (rotN n x)
theorem rotN_split : ∀ (b a : List Int), ∀ j, j = b.length → rotN j (a ++ b) = b ++ a := by
  intro b a j
  induction j generalizing a b with
  | zero =>
    intro h
    have : b = [] := List.eq_nil_of_length_eq_zero h.symm
    subst this
    show a ++ [] = [] ++ a
    rw [List.append_nil, List.nil_append]
  | succ j ih =>
    intro h
    match b, h with
    | y :: r, h =>
      have e1 : a ++ y :: r = (a ++ [y]) ++ r := by rw [List.append_assoc] <;> rfl
      show rot (rotN j (a ++ y :: r)) = y :: r ++ a
      rw [e1, ih r (a ++ [y]) (by simpa using h), ← List.append_assoc, rot_snoc] <;> rfl
theorem rotN_len (ms : List Int) : rotN ms.length ms = ms := by
  have := rotN_split ms [] ms.length rfl
  rw [List.nil_append, List.append_nil] at this
  exact this
theorem snoc_of : ∀ {ms : List Int}, ms ≠ [] → ∃ l z, ms = l ++ [z] := fun {ms} h => ⟨ms.dropLast, ms.getLast h, (List.dropLast_concat_getLast h).symm⟩
theorem rot_facts {ms : List Int} (h : Bits ms) (h1 : 1 ≤ ms.sum) : Bits (rot ms) ∧ (rot ms).sum = ms.sum ∧ (rot ms).length = ms.length ∧ turn (ofMarks ms) = ofMarks (rot ms) := by
  obtain ⟨l, z, rfl⟩ := snoc_of (ms := ms) (fun e => by rw [e] at h1; exact absurd h1 (by decide))
  rw [rot_snoc]
  refine ⟨fun m hm => ?_, ?_, ?_, turn_marks h h1⟩
  · rcases List.mem_cons.mp hm with rfl | hm
    · exact h m (List.mem_append_right _ (List.mem_singleton.mpr rfl))
    · exact h m (List.mem_append_left _ hm)
  · rw [List.sum_cons, List.sum_append, List.sum_cons, List.sum_nil]
    omega
  · rw [List.length_cons, List.length_append, List.length_singleton]
theorem rotN_facts {ms : List Int} (h : Bits ms) (h1 : 1 ≤ ms.sum) : ∀ j, Bits (rotN j ms) ∧ (rotN j ms).sum = ms.sum ∧ (rotN j ms).length = ms.length ∧ turnN j (ofMarks ms) = ofMarks (rotN j ms)
  | 0 => ⟨h, rfl, rfl, rfl⟩
  | j + 1 => by
    obtain ⟨a, b, c, d⟩ := rotN_facts h h1 j
    obtain ⟨a', b', c', d'⟩ := rot_facts a (by omega)
    refine ⟨a', by show (rot (rotN j ms)).sum = _; omega, by show (rot (rotN j ms)).length = _; omega, ?_⟩
    rw [turnN_succ, d, d'] <;> rfl
theorem ofMarks_ring {ms : List Int} (h : Bits ms) (h1 : 1 ≤ ms.sum) : ∃ d, d ≤ ms.length ∧ Ring (ofMarks ms) d := by
  have hl : 1 ≤ ms.length := by
    have := bits_sum_range h
    omega
  refine ring_ex hl ?_
  rw [(rotN_facts h h1 ms.length).2.2.2, rotN_len]

/-! ### lists of ints compared -/
theorem dpAll_ints {K : PySem.W.Frag} {H : Hp} : ∀ ns : List Int, DpAll K H (ns.map V.int) (ns.map PyData.int)
  | [] => .nil
  | n :: r => .cons (.int n) (dpAll_ints r)
theorem dp_ints {K : PySem.W.Frag} {H : Hp} {a : Addr} {ns : List Int} (h : SqL K H a (ns.map V.int)) : Dp K H (.ref a) (.list (ns.map PyData.int)) := .lst h (dpAll_ints ns)
theorem sh_all_ints : ∀ ns : List Int, PyData.canLayAll0 (ns.map PyData.int) = true ∧ PyData.depthAll (ns.map PyData.int) = 0
  | [] => ⟨rfl, rfl⟩
  | n :: r => by
    obtain ⟨h1, h2⟩ := sh_all_ints r
    refine ⟨?_, ?_⟩
    · rw [List.map_cons, PyData.canLayAll0, h1] <;> rfl
    · rw [List.map_cons, PyData.depthAll, h2] <;> rfl
theorem sh_ints (ns : List Int) : SeqAt.shaped (.list (ns.map PyData.int)) = true := by
  obtain ⟨h1, h2⟩ := sh_all_ints ns
  unfold SeqAt.shaped
  rw [PyData.canLay0, PyData.depth, h1, h2] <;> rfl
theorem eqv_all_ints : ∀ ns ms : List Int, PyData.eqvAll (ns.map PyData.int) (ms.map PyData.int) = decide (ns = ms)
  | [], [] => by rw [List.map_nil, PyData.eqvAll] <;> rfl
  | [], m :: ms => by rw [List.map_nil, List.map_cons, PyData.eqvAll] <;> simp
  | n :: ns, [] => by rw [List.map_nil, List.map_cons, PyData.eqvAll] <;> simp
  | n :: ns, m :: ms => by
    rw [List.map_cons, List.map_cons, PyData.eqvAll, eqv_all_ints ns ms, PyData.eqv]
    by_cases e : n = m
    · subst e
      simp
    · simp [e]
theorem eqv_ints (ns ms : List Int) : PyData.eqv (.list (ns.map PyData.int)) (.list (ms.map PyData.int)) = decide (ns = ms) := by
  rw [PyData.eqv]
  exact eqv_all_ints ns ms
/-! ### a list that is looked at place by place -/
def Adj (ns : List Int) (i : Nat) : Prop := ∀ j, j < i → ∀ x, ns[j]? = some x → 1 ≤ x ∧ ∀ y, 0 < j → ns[j - 1]? = some y → x ≤ y
theorem falls_of_adj : ∀ {ns : List Int}, (∀ j x y, ns[j + 1]? = some x → ns[j]? = some y → x ≤ y) → Falls ns
  | [], _ => List.Pairwise.nil
  | [_], _ => List.pairwise_singleton _ _
  | a :: b :: r, h => by
    have ih : Falls (b :: r) := falls_of_adj fun j x y hx hy => h (j + 1) x y hx hy
    have hab : b ≤ a := h 0 b a rfl rfl
    refine List.pairwise_cons.mpr ⟨fun z hz => ?_, ih⟩
    rcases List.mem_cons.mp hz with rfl | hz
    · exact hab
    · have := (List.pairwise_cons.mp ih).1 z hz
      show z ≤ a
      omega
theorem good_adj {ns : List Int} : Good ns ↔ ns ≠ [] ∧ Adj ns ns.length := by
  constructor
  · intro h
    refine ⟨h.ne, fun j hj x hx => ⟨h.pos x (List.mem_of_getElem? hx), fun y h0 hy => ?_⟩⟩
    obtain ⟨i, rfl⟩ : ∃ i, j = i + 1 := ⟨j - 1, by omega⟩
    obtain ⟨a1, a2⟩ := List.getElem?_eq_some_iff.mp hx
    obtain ⟨b1, b2⟩ := List.getElem?_eq_some_iff.mp hy
    have := List.pairwise_iff_getElem.mp h.falls i (i + 1) (by omega) a1 (by omega)
    rw [← a2, ← b2]
    exact this
  · rintro ⟨h0, h⟩
    refine ⟨fun x hx => ?_, falls_of_adj fun j x y hx hy => ?_, h0⟩
    · obtain ⟨j, hj⟩ := List.getElem?_of_mem hx
      exact (h j (List.getElem?_eq_some_iff.mp hj).1 x hj).1
    · exact (h (j + 1) (List.getElem?_eq_some_iff.mp hx).1 x hx).2 y (by omega) hy
theorem insD_at {x : Int} : ∀ {l : List Int} {j : Nat}, j ≤ l.length → (∀ i y, i < j → l[i]? = some y → y > x) → (∀ y, l[j]? = some y → ¬ y > x) → insD x l = l.take j ++ [x] ++ l.drop j
  | [], 0, _, _, _ => rfl
  | [], j + 1, h, _, _ => by simp at h
  | a :: r, 0, _, _, h => by
    unfold insD
    rw [if_neg (h a rfl)] <;> rfl
  | a :: r, j + 1, hj, h1, h2 => by
    unfold insD
    rw [if_pos (h1 0 a (by omega) rfl), insD_at (l := r) (j := j) (by simpa using hj) (fun i y hi hy => h1 (i + 1) y (by omega) hy) h2] <;> rfl
theorem op_eqDK {X : Cx} (K : PySem.W.Frag) (hu : X.A.units + 64 < cLine) (h : X.K = K := by rfl) : OpR X (compareOp .Eq) (rEqD K) := by
  subst h
  exact op_eqD hu

/-! ### own exceptions: facts of the classes -/
def eNames : List Str := ["NoPiles", "NotRound", "NoMarks", "NoNumber", "NoNote"]
def excOneB (K : PySem.W.Frag) (x : Str) : Bool :=
  ((He.Fa.glo x).ok K && (He.Fa.exc x).ok K) &&
  (decide (PySem.W.findIn K (.ref (He.ga K x)) "__getattribute__" = some (some (.builtin "BaseException.__getattribute__"))) && (decide (PySem.W.findIn K (.ref (He.ga K x)) "__getattr__" = some none) && (PySem.W.hasDictIn K (He.ga K x) &&
  (decide (PySem.W.findIn K (.ref (He.ga K x)) "__class__" = some (some (.builtin "object.__class__"))) && (decide (PySem.W.specialIn K (.builtin "object.__class__") "__get__" = some (some (.builtin "getset_descriptor.__get__"))) &&
  (decide (PySem.W.takesIn K (.builtin "object.__class__") = some true) && decide (PySem.W.mroIn K (He.ga K x) (.type "object") = some true))))))) &&
  (decide (PySem.W.exmOne K (.ref (He.ga K x)) (.ref (He.ga K "PileError")) = some true) && (decide (PySem.W.kitOne K (.ref (He.ga K x)) (.type "ValueError") = some true) &&
  eNames.all fun y => decide (PySem.W.kitOne K (.ref (He.ga K x)) (.ref (He.ga K y)) = some (decide (x = y)))))
def excB (K : PySem.W.Frag) : Bool := (He.Fa.glo "PileError").ok K && eNames.all fun x => excOneB K x
structure XCls (K : PySem.W.Frag) (mg : Str → Option Value) (x : Str) : Prop where
  g : mg x = some (.ref (He.ga K x))
  inn : PySem.W.excIn K (He.ga K x) He.veBase "ValueError.__new__" = true
  kp : PySem.W.keepIn K (.ref (He.ga K x)) = true
  bs : PySem.W.subIn K (.ref (He.ga K x)) (.type "BaseException") = some true
  ty : PySem.W.typeIn K (.ref (He.ga K x)) = some (.type "type")
  ec : ExcC K (He.ga K x)
  pe : PySem.W.exmOne K (.ref (He.ga K x)) (.ref (He.ga K "PileError")) = some true
  ve : PySem.W.kitOne K (.ref (He.ga K x)) (.type "ValueError") = some true
  is : ∀ y ∈ eNames, PySem.W.kitOne K (.ref (He.ga K x)) (.ref (He.ga K y)) = some (decide (x = y))
theorem xcls_of {K : PySem.W.Frag} {h : Heap} {mg : Str → Option Value} (X : K.In h) (G : h.Ns mainGlobals mg) {x : Str} (c : excOneB K x = true) : XCls K mg x := by
  obtain ⟨c0, c3⟩ := He.ba c
  obtain ⟨c1, c2⟩ := He.ba c0
  obtain ⟨a1, a2⟩ := He.ba c1
  obtain ⟨e1, e2, e3, e4⟩ := He.exc_ok a2
  obtain ⟨b1, c2⟩ := He.ba c2
  obtain ⟨b2, c2⟩ := He.ba c2
  obtain ⟨b3, c2⟩ := He.ba c2
  obtain ⟨b4, c2⟩ := He.ba c2
  obtain ⟨b5, c2⟩ := He.ba c2
  obtain ⟨b6, b7⟩ := He.ba c2
  obtain ⟨d1, c3⟩ := He.ba c3
  obtain ⟨d2, d3⟩ := He.ba c3
  exact ⟨He.glo_ok X G a1, e1, e2, e3, e4, ⟨of_decide_eq_true b1, of_decide_eq_true b2, e3, b3, of_decide_eq_true b4, of_decide_eq_true b5, of_decide_eq_true b6, of_decide_eq_true b7⟩, of_decide_eq_true d1, of_decide_eq_true d2,
    fun y hy => of_decide_eq_true (List.all_eq_true.mp d3 y hy)⟩
theorem pe_cls {X : Cx} {K : PySem.W.Frag} {mg : Str → Option Value} {x : Str} {pos : Pos} (T : XCls K mg x) (e : X.mg = mg := by rfl) (h : Gl X x := by rfl) (hd : (x == ("__debug__" : Str)) = false := by decide) : PE X (.Name x pos) (tC (.ref (He.ga K x))) := by
  subst e
  exact pe_glob h T.g rfl hd
/-! the Hook: He's, with one Bool more -/
abbrev AlE : Type := He.AlD × Bool
def obsXE (n : Nat) (fa : List He.Fa) (fn : List He.DefD) (ex : PySem.W.Frag → Bool) (g : Addr → Option Obj) : AlE := (He.obsDG n fa fn g, ex (He.frG g (He.asD g n)))
def hookXE (n : Nat) (fa : List He.Fa) (fn : List He.DefD) (ex : PySem.W.Frag → Bool) : PySem.W.Hook where
  α := AlE
  obs := fun s => obsXE n fa fn ex s.heap.get?
  val := fun _ => (He.valD fn, true)
  says := fun _ h => ∃ K : PySem.W.Frag, K.In h ∧ He.SaysD fa fn K ∧ ex K = true
  of := fun _ _ e => ⟨_, He.frG_in, congrArg (fun z : AlE => z.1) e, congrArg (fun z : AlE => z.2) e⟩
  keeps := fun _ _ _ ⟨K, hK, c⟩ k => ⟨K, PySem.W.Frag.In.keeps hK k, c⟩
theorem obsXE_eq {n : Nat} {fa : List He.Fa} {fn : List He.DefD} {ex : PySem.W.Frag → Bool} {g : Addr → Option Obj} {s : Shared} (h : ∀ a, g a = s.heap.get? a) : obsXE n fa fn ex g = (hookXE n fa fn ex).obs s := by
  have e : g = s.heap.get? := funext h
  rw [e] <;> rfl
/-! ### a def that may raise, its calls -/
theorem takes_no {X : Cx} : L2N.Takes X (fun _ _ _ _ => False) := fun _ _ ⟨_, _, _, _, _, _, _, _, _, _, _, _, _, _, _, _, w⟩ => w.elim
theorem cal_mkX {P : Program} {w : World} {K : PySem.W.Frag} {mg : Str → Option Value} {base : Heap} {x : Str} {st : Stmt} {N ps : List Str} {k : Nat} {sp : Sp} (D : DefAt K mg x st) (S : FnScope N ps (defScope st)) (len : ∀ vs H Q E, sp vs H Q E → vs.length = ps.length)
    (hb : ∀ (kV doc pm : Value) (an : Option Addr) (cdv ct : Value) (us : List Value), us.length = ps.length → bindArgs (PySem.W.fnOf x x (defArgs st) (defBody st) (defScope st) .none kV doc pm an cdv ct) ⟨us, []⟩ = pure (ps.zip us))
    (hbody : ∀ (f : Addr) (cdv : Value) (A : Around) (outer : List Env) (s : Shared) (H : Hp) (vs : List V) (Q : VK) (E : XK), Room k (A.deeper (envOfC x (defScope st) s.heap.objs.size f cdv)) → sp vs H Q E →
      L2N.Takes (cxOf (L2N.CX P w) P w K mg base N x (defScope st) f cdv A outer s H E) (fun cls d _ H => E cls d H) →
      ∃ t, PSs (cxOf (L2N.CX P w) P w K mg base N x (defScope st) f cdv A outer s H E) (defBody st) t ∧ t { nx := fun _ H' => Q .non H', rt := Q } (start N vs) H) : Cal P w K mg base (L2N.CX P w) (k + 1) x ps sp := by
  obtain ⟨fd, F, g⟩ := D
  refine ⟨⟨_, fd, F.ok S len (fun cdv A outer s H vs Q E hr h => ?_), g, F.kp, F.bindsN hb⟩⟩
  exact hbody _ cdv A outer s H vs Q E hr h (L2N.takes_of rfl rfl rfl rfl)
theorem pe_callX {X : Cx} {W : WX} {k : Nat} {x : Str} {ps : List Str} {sp : Sp} {e : Expr} {es : List Expr} {t : TA} {p pos : Pos} (C : Cal X.prog X.w X.K X.mg X.base (L2N.CX X.prog X.w) k x ps sp) (tk : L2N.Takes X W) (hr : Room k X.A) (ha : PA X (e :: es) t) (hg : Gl X x := by rfl)
    (hdb : (x == ("__debug__" : Str)) = false := by decide) (he : starEach (e :: es) X.env = (false, eval e X.env) :: starEach es X.env := by rfl) (hpl : (backTo pos (starEach es X.env)).any (·.1) = false := by rfl) :
    PE X (.Call (.Name x p) (e :: es) [] pos) (tCallS sp (WE W) t) := by
  obtain ⟨f, fd, F, hm, hk, hb⟩ := C.ex
  exact pe_callS F hr hg hm hk hb (fun σ => L2N.passAt tk σ) ha hdb he hpl
theorem pmk_x {X : Cx} {x m : Str} {j : Nat} {p p2 pos : Pos} (T : XCls X.K X.mg x) (hg : Gl X x) (hdb : (x == ("__debug__" : Str)) = false := by decide) : L2N.PMk X (.Call (.Name x p) [.Constant (.str m) j p2] [] pos) (fun _ H Q => Q (.ref (He.ga X.K x)) none H) :=
  L2N.pmk_own PySem.F.excBase_ValueError T.inn T.g T.kp (raises_own T.bs T.ty) hg hdb
/-! ### a def called in the suite of an except clause: it may know the exception p -/
structure FnP (P : Program) (w : World) (K : PySem.W.Frag) (mg : Str → Option Value) (base : Heap) (CX : CXT) (k : Nat) (f : Addr) (fd : FuncData) (ps : List Str) (sp : Sp) (p : Addr × Obj) : Prop where
  len : ∀ vs H Q E, sp vs H Q E → vs.length = ps.length
  run : ∀ (A : Around) (outer : List Env) (s : Shared) (H : Hp) (args : Args) (us : List Value) (vs : List V) (Q : VK) (E : XK), L2H.RoomH k A → L2H.Hot1 A p → L2H.PinOk outer H s p → Env0 P w K mg base A outer s H → BindsTo s fd args (ps.zip us) → Vals vs us → sp vs H Q E →
    codeAny (model P w) A (.call (.ref f) args) (CR CX outer P w H s Q E) s
structure CalP (P : Program) (w : World) (K : PySem.W.Frag) (mg : Str → Option Value) (base : Heap) (CX : CXT) (k : Nat) (x : Str) (ps : List Str) (sp : Sp) (p : Addr × Obj) : Prop where
  ex : ∃ (f : Addr) (fd : FuncData), FnP P w K mg base CX k f fd ps sp p ∧ mg x = some (.ref f) ∧ PySem.W.keepIn K (.ref f) = true ∧ Binds K fd ps []
theorem cal_mkP {CX : CXT} {P : Program} {w : World} {K : PySem.W.Frag} {mg : Str → Option Value} {base : Heap} {x : Str} {st : Stmt} {N ps : List Str} {k : Nat} {sp : Sp} {p : Addr × Obj} (D : DefAt K mg x st) (S : FnScope N ps (defScope st)) (len : ∀ vs H Q E, sp vs H Q E → vs.length = ps.length)
    (hb : ∀ (kV doc pm : Value) (an : Option Addr) (cdv ct : Value) (us : List Value), us.length = ps.length → bindArgs (PySem.W.fnOf x x (defArgs st) (defBody st) (defScope st) .none kV doc pm an cdv ct) ⟨us, []⟩ = pure (ps.zip us))
    (hbody : ∀ (f : Addr) (cdv : Value) (A : Around) (outer : List Env) (s : Shared) (H : Hp) (vs : List V) (Q : VK) (E : XK), L2H.RoomH k (A.deeper (envOfC x (defScope st) s.heap.objs.size f cdv)) → sp vs H Q E →
      ∃ t, PSs (L2H.cxH CX P w K mg base N x (defScope st) f cdv A outer s H E p) (defBody st) t ∧ t { nx := fun _ H' => Q .non H', rt := Q } (start N vs) H) : CalP P w K mg base CX (k + 1) x ps sp p := by
  obtain ⟨fd, F, g⟩ := D
  have B := F.bindsN hb
  have kp := F.kp
  obtain ⟨oc, od, dV, kV, doc, pm, an, cdv, ct, osl, rfl, lk, hcd, _, _⟩ := F.ex
  refine ⟨⟨_, _, ⟨len, fun A outer s H args us vs Q E hr hot hpin e0 hbd r hsp => ?_⟩, g, kp, B⟩⟩
  have hl := len _ _ _ _ hsp
  have KX : K.In s.heap := e0.mod.kin.keeps fun b o e => (e0.bs b o e).1
  have lim : s.heap.NoLimit := e0.mod.nolimit.keeps fun b o e => (e0.bs b o e).1
  have hkind : ∀ y ∈ ps.zip us, (defScope st).names.lookup y.1 = some .local ∨ ((defScope st).names.lookup y.1 = some .cell ∧ ((cellsFrom (s.heap.objs.size + 1) (defScope st).names []).lookup y.1).isSome = true) := fun ⟨n, v⟩ hy => by
    rcases S.par n (List.of_mem_zip hy).1 with q | q
    · exact .inl q
    · exact .inr ⟨q, PySem.W.cellsFrom_some _ _ _ (.inl q)⟩
  refine codeAny_call_function hr.depth (KX _ _ lk) rfl S.co S.gen rfl (PySem.W.codeRec_of KX hcd) (hbd _ _ _ _ ?_)
  refine wpAny_newFunctionEnv_cells S.kind hkind fun env he s1 x1 => ?_
  subst he
  refine ⟨lim.keeps x1.toInCall.keep, codeAny_func ?_⟩
  obtain ⟨t, ht, hq⟩ := hbody _ cdv A outer s H vs Q E (hr.deeper _) hsp
  have I : Inv (L2H.cxH CX P w K mg base N x (defScope st) _ cdv A outer s H E p) [] (start N vs) H s1 := L2H.inv_startH S hpin e0 hl r x1
  refine wpAny_mono (ht.run [] s1 (start N vs) H _ I hq) (fun fl s' hs => ?_) fun e s' hs => hs
  cases fl with
  | ret u =>
    obtain ⟨v, σ', H', J, rv, q⟩ := hs
    exact ⟨v, H', J.os, J.bare, J.base, J.hok, rv, q⟩
  | next =>
    obtain ⟨σ', H', J, q⟩ := hs
    exact ⟨V.non, H', J.os, J.bare, J.base, J.hok, rfl, q⟩
  | brk =>
    obtain ⟨_, _, _, q⟩ := hs
    exact False.elim q
  | cont =>
    obtain ⟨_, _, _, q⟩ := hs
    exact False.elim q
theorem pe_callP {X : Cx} {k : Nat} {x : Str} {ps : List Str} {sp : Sp} {pn : Addr × Obj} {e : Expr} {es : List Expr} {t : TA} {p pos : Pos} (C : CalP X.prog X.w X.K X.mg X.base CX0 k x ps sp pn) (hr : L2H.RoomH k X.A) (hot : L2H.Hot1 X.A pn) (hp : pn ∈ X.pn) (ha : PA X (e :: es) t) (hg : Gl X x := by rfl)
    (hdb : (x == ("__debug__" : Str)) = false := by decide) (he : starEach (e :: es) X.env = (false, eval e X.env) :: starEach es X.env := by rfl) (hpl : (backTo pos (starEach es X.env)).any (·.1) = false := by rfl) :
    PE X (.Call (.Name x p) (e :: es) [] pos) (tCallS sp (fun _ => E0) t) := by
  obtain ⟨f, fd, F, hm, hk, hb⟩ := C.ex
  refine ⟨fun pins s σ H Q I h => ?_⟩
  refine wpAny_Call_Name_kw (ld_glob I hg hm ?_ hdb)
  refine PySem.W.callWith_K (h₀ := X.base) I.ok.mod.kin hk (thn (ha.run pos pins s σ H _ I h) fun us s1 ⟨vs, H1, I1, r, q⟩ => ⟨I1.kIn, ?_⟩) he hpl
  have hl : us.length = ps.length := by rw [← r.length]; exact F.len _ _ _ _ q
  have b := hb s1 us I1.kIn (by rw [List.append_nil]; exact hl)
  rw [List.append_nil] at b
  have P1 := I1.pin pn (List.mem_append_left _ hp)
  have hpin : L2H.PinOk X.stack H1 s1 pn := ⟨P1.1, P1.2.1, fun hm => (List.mem_cons.mp (I1.stkSub pn.1 hm)).elim P1.2.2.1 P1.2.2.2.1, P1.2.2.2.2⟩
  refine wpAny_call (codeAny_mono (F.run X.A X.stack s1 H1 ⟨us, []⟩ us vs Q E0 hr hot hpin I1.env0 b r q) fun r' s' hq => ?_)
  cases r' with
  | error e => exact False.elim hq
  | ok fl =>
    cases fl with
    | ret u => exact I1.after hq
    | next => exact False.elim hq
    | brk => exact False.elim hq
    | cont => exact False.elim hq
/-- the suite's exception -/
theorem hot_suite {X : Cx} {a : Addr} {oe : Obj} {pn : List (Addr × Obj)} {cls : Value} {d : Option Addr} (hz : L2N.Zn cls d oe) (hf : ∃ vs, oe.data = .fields vs) : L2H.Hot1 (X.suite a ((a, oe) :: pn)).A (a, oe) := by
  obtain ⟨vs, e⟩ := hf
  exact ⟨rfl, vs, e, hz.2.2 vs e⟩
theorem roomH_suite {k : Nat} {A : Around} (r : Room k A) (h : Option Value) : L2H.RoomH k (A.mark h) := ⟨r.dp, r.un⟩
/-- isinstance(e, c), e the pinned exception -/
theorem call_isP {X : Cx} {a D : Addr} {oe : Obj} (C : ExcC X.K D) (hz : Zc (.ref D) none oe) (hf : ∃ vs, oe.data = .fields vs) (hp : (a, oe) ∈ X.pn) : CallR X (.builtin "isinstance") (rIsE X.K D a) := by
  intro pins s σ H xs us Q I r h
  obtain ⟨c, cv, b, rfl, hcv, e, q⟩ := h
  cases r with
  | cons rx rr =>
    cases rr with
    | cons rt rr =>
      cases rr
      cases rx
      have ec := hcv _ rt
      subst ec
      obtain ⟨hget, _⟩ := I.pin (a, oe) (List.mem_append_left _ hp)
      obtain ⟨vs, hv⟩ := hf
      have J : PySem.W.InstAt s.heap a oe D none := by
        obtain ⟨oc, od, oda, osl⟩ := oe
        obtain ⟨h1, h2⟩ := hz
        dsimp only at h1 h2 hv
        subst h1 h2 hv
        exact ⟨hget, rfl, rfl, trivial⟩
      exact PySem.W.kia_one (PySem.W.handS_kitx_exc C.hg C.hk C.hs C.hd C.ha C.hn C.ht C.hm) I.kIn J e (fun z => by cases z) fun tk => ⟨.bl b, H, I.kept (t' := tk) fun _ _ z => z, rfl, q⟩
/-- list.count of flat values -/
def rCntF (K : PySem.W.Frag) : V → List V → Hp → VK → Prop := fun x xs H Q => ∃ (p : Addr) (ys : List V) (y : V), x = .ref p ∧ xs = [y] ∧ SqL K H p ys ∧ flatV y = true ∧ ys.all flatV = true ∧ Q (.int (ys.countP fun z => eqV z y : Nat)) H
theorem countP_eqU {x : V} : ∀ {xs : List V} {us : List Value}, Vals xs us → xs.all flatV = true → us.countP (eqU x) = xs.countP fun y => eqV y x
  | _, _, .nil, _ => rfl
  | y :: xs, u :: us, .cons r t, f => by
    rw [List.all_cons, Bool.and_eq_true] at f
    rw [List.countP_cons, List.countP_cons, countP_eqU t f.2, eqU_of r f.1]
theorem mt_fcount {X : Cx} : MtR X "list.count" (rCntF X.K) := by
  intro pins s σ H x xs v us Q I rx rxs h
  obtain ⟨p, ys, y, rfl, rfl, hs, fy, fys, q⟩ := h
  cases rx
  obtain ⟨u, rfl, ru⟩ := rxs.one
  obtain ⟨its, rv, ⟨⟨cls, dd, data, sl⟩, n, ho, hc, hdn, hd⟩, hlen⟩ := I.list hs
  simp only at hc hd
  subst hc hd
  refine call_meets PySem.F.slot_list_count ⟨_, ho, rfl⟩ PySem.F.entry_list_count (PySem.F.args_list_count_2 _ _)
    (SeqAt.list_countAt p its.toArray n dd sl u (eqU y)) ⟨ho, fun z hz => mem_eqAt ru fy rv fys z (by simpa using hz), ?_⟩
  refine ⟨.int (ys.countP fun z => eqV z y : Nat), H, I.tok _, ⟨s.toks, ?_⟩, q⟩
  show Value.int ((its.toArray.toList.countP (eqU y) : Nat) : Int) s.toks = _
  rw [show its.toArray.toList = its by simp, countP_eqU rv fys]

/-! ### the text -/
def top (i : Nat) : Stmt := PySem.Challenge.pw_pilewheel_k06_round_or_not.main.body.getD i (.Pass ⟨0, 0, 0, 0⟩)
abbrev s_is_setting : Stmt := top 9
abbrev s_must_be : Stmt := top 10
abbrev s_stair_of : Stmt := top 12
abbrev s_marks_by : Stmt := top 13
abbrev s_is_round : Stmt := top 14
abbrev s_marks_of : Stmt := top 15
abbrev s_law_cell : Stmt := top 17
abbrev s_law_ints : Stmt := top 18
abbrev s_law_next : Stmt := top 19
abbrev s_law_fallen : Stmt := top 20
abbrev s_law_turned : Stmt := top 21
abbrev s_law_stair : Stmt := top 22
abbrev s_law_by_marks : Stmt := top 23
abbrev s_law_drawn_marks : Stmt := top 24
abbrev s_law_elder : Stmt := top 25
abbrev s_law_drawn_piles : Stmt := top 26
abbrev s_law_setting : Stmt := top 27
abbrev s_law_marks : Stmt := top 28
abbrev s_law_which : Stmt := top 29
abbrev s_law_moved : Stmt := top 30
abbrev s_law : Stmt := top 31
structure Txt (K : PySem.W.Frag) (mg : Str → Option Value) : Prop where
  d_is_setting : DefAt K mg "is_setting" s_is_setting
  d_must_be : DefAt K mg "must_be" s_must_be
  d_stair_of : DefAt K mg "stair_of" s_stair_of
  d_marks_by : DefAt K mg "marks_by" s_marks_by
  d_is_round : DefAt K mg "is_round" s_is_round
  d_marks_of : DefAt K mg "marks_of" s_marks_of
  d_law_cell : DefAt K mg "_law_cell" s_law_cell
  d_law_ints : DefAt K mg "_law_ints" s_law_ints
  d_law_next : DefAt K mg "_law_next" s_law_next
  d_law_fallen : DefAt K mg "_law_fallen" s_law_fallen
  d_law_turned : DefAt K mg "_law_turned" s_law_turned
  d_law_stair : DefAt K mg "_law_stair" s_law_stair
  d_law_by_marks : DefAt K mg "_law_by_marks" s_law_by_marks
  d_law_drawn_marks : DefAt K mg "_law_drawn_marks" s_law_drawn_marks
  d_law_elder : DefAt K mg "_law_elder" s_law_elder
  d_law_drawn_piles : DefAt K mg "_law_drawn_piles" s_law_drawn_piles
  d_law_setting : DefAt K mg "_law_setting" s_law_setting
  d_law_marks : DefAt K mg "_law_marks" s_law_marks
  d_law_which : DefAt K mg "_law_which" s_law_which
  d_law_moved : DefAt K mg "_law_moved" s_law_moved
  c_MOST : ∃ u, mg "MOST" = some u ∧ RelV (.int 100) u
  m_ValueError : mg "ValueError" = none
  m_bool : mg "bool" = none
  m_int : mg "int" = none
  m_isinstance : mg "isinstance" = none
  m_len : mg "len" = none
  m_list : mg "list" = none
  m_min : mg "min" = none
  m_range : mg "range" = none
  m_reversed : mg "reversed" = none
  m_sorted : mg "sorted" = none
  m_sum : mg "sum" = none
  xc : ∀ x ∈ eNames, XCls K mg x
  g_PileError : mg "PileError" = some (.ref (He.ga K "PileError"))

section
variable {P : Program} {w : World} {K : PySem.W.Frag} {mg : Str → Option Value} {base : Heap}
theorem sc_stair_of : FnScope ["coins", "stair"] ["coins"] (defScope s_stair_of) := ⟨rfl, rfl, rfl, by decide +kernel, rfl, by decide +kernel, by decide +kernel⟩
def sp_stair_of : Sp := fun vs H Q _ => ∃ n : Nat, vs = [.int n] ∧ 1 ≤ n ∧ n ≤ 100000 ∧ Q (.int (stair n)) H
theorem ok_stair_of (T : Txt K mg) : Cal P w K mg base CX0 1 "stair_of" ["coins"] sp_stair_of := by
  refine cal_mk T.d_stair_of sc_stair_of ?_ (fun _ _ _ _ _ _ us hl => match us, hl with | [_], _ => rfl) (fun f cdv A outer s H vs Q E hr h => ?_)
  · intro vs H Q E h
    obtain ⟨n, rfl, _⟩ := h
    rfl
  obtain ⟨n, rfl, h1, h2, q⟩ := h
  refine ⟨_, (pss_cons (ps_set (i := 1) sc_stair_of.nd rfl (Or.inl rfl) pe_int)
      (pss_cons (ps_while PassesOwn.never (pt_cmpR op_lt (pe_op op_fdiv (pe_op op_mul (pv 1) (pe_op op_add (pv 1) pe_int)) pe_int) (pv 0) (nomark _))
      (pss_one (ps_set (i := 1) sc_stair_of.nd rfl (Or.inl rfl) (pe_op op_add (pv 1) pe_int))))
      (pss_one (ps_ret (pv 1))))), ?_⟩
  refine ⟨fun m σ H' => ∃ s : Nat, σ = [some (.int n), some (.int s)] ∧ H' = H ∧ m = 2 * n + 2 - s ∧ 1 ≤ s ∧ (s - 1) * s < 2 * n, ⟨_, 1, rfl, rfl, rfl, Nat.le_refl _, by omega⟩, fun m σ H' hW => ?_⟩
  obtain ⟨s, rfl, rfl, rfl, g1, g2⟩ := hW
  have g3 : s ≤ 2 * n + 1 := by
    have := Nat.mul_le_mul_left (s - 1) g1
    omega
  have hh := half_sq s
  refine ⟨_, rfl, _, rfl, _, _, rfl, rfl, _, _, rfl, rfl, .inl ⟨by omega, by omega⟩, _, _, rfl, rfl, ⟨by decide, by decide⟩, _, rfl, _, _, rfl, rfl, _, rfl, ite2 (fun c => ?_) (fun c => ?_)⟩
  · have c' : (s : Int) * ((s : Int) + 1) / 2 < (n : Int) := of_decide_eq_true c
    have c1 : ((s * (s + 1) / 2 : Nat) : Int) < (n : Int) := c'
    have c2 : s * (s + 1) < 2 * n := by omega
    refine ⟨fun σ' H2 => ∃ s' : Nat, s' = s + 1 ∧ σ' = [some (.int n), some (.int s')] ∧ H2 = H', fun σ' H2 h => ?_, ?_⟩
    · obtain ⟨s', rfl, e1, e2⟩ := h
      exact ⟨2 * n + 2 - (s + 1), by omega, s + 1, e1, e2, rfl, by omega, by rw [Nat.add_sub_cancel]; exact c2⟩
    · exact ⟨_, rfl, _, _, rfl, rfl, s + 1, rfl, rfl, rfl⟩
  · have c' : ¬ (s : Int) * ((s : Int) + 1) / 2 < (n : Int) := fun h => c (decide_eq_true h)
    have c1 : ¬ ((s * (s + 1) / 2 : Nat) : Int) < (n : Int) := c'
    have c2 : 2 * n ≤ s * (s + 1) := by omega
    rw [← stair_uniq h1 g1 g2 c2] at q
    exact ⟨_, rfl, q⟩

end

section
variable {P : Program} {w : World} {K : PySem.W.Frag} {mg : Str → Option Value} {base : Heap}
theorem sc_marks_by : FnScope ["piles", "stair", "found", "k", "pile", "mark"] ["piles"] (defScope s_marks_by) := ⟨rfl, rfl, rfl, by decide +kernel, rfl, by decide +kernel, by decide +kernel⟩
theorem marksAt_len (S : Nat) (ns : List Int) : (marksAt S ns).length = S := by
  unfold marksAt
  rw [List.length_map, List.length_range]
theorem marksAt_get {S : Nat} {ns : List Int} {k : Nat} (h : k < S) : (marksAt S ns)[k]? = some (ns.getD k 0 - ((S : Int) - 1 - (k : Int))) := by
  unfold marksAt
  rw [List.getElem?_map, List.getElem?_range h] <;> rfl
def sp_marks_by : Sp := fun vs H Q _ => ∃ (a : Addr) (ns : List Int), vs = [.ref a] ∧ IL H a ns ∧ Good ns ∧ ns.sum ≤ 100 ∧ NL Q H (marksBy ns)
theorem ok_marks_by (T : Txt K mg) : Cal P w K mg base CX0 2 "marks_by" ["piles"] sp_marks_by := by
  have C_stair_of := ok_stair_of (P := P) (w := w) (base := base) T
  refine cal_mk T.d_marks_by sc_marks_by ?_ (fun _ _ _ _ _ _ us hl => match us, hl with | [_], _ => rfl) (fun f cdv A outer s H vs Q E hr h => ?_)
  · intro vs H Q E h
    obtain ⟨a, ns, rfl, _⟩ := h
    rfl
  obtain ⟨a, ns, rfl, hS, hg, hs, q⟩ := h
  have hll := len_le_sum hg.pos
  have hne := List.length_pos_iff.mpr hg.ne
  refine ⟨_, (pss_cons (ps_set (i := 1) sc_marks_by.nd rfl (Or.inl rfl) (pe_callF C_stair_of (hr.mono (by decide)) (pa_cons (pe_callB (cr_sum rfl) (by rfl) T.m_sum (by decide +kernel) (pa_cons (pv 0) pa_nil)) pa_nil)))
      (pss_cons (ps_if (pt_cmpR op_gt (pe_callB call_len_seq (by rfl) T.m_len PySem.boot_len (pa_cons (pv 0) pa_nil)) (pv 1) (nomark _))
      (pss_one (ps_ret (pe_lst pa_nil))) pss_nil)
      (pss_cons (ps_set (i := 2) sc_marks_by.nd rfl (Or.inl rfl) (pe_lst pa_nil))
      (pss_cons (ps_for PassesOwn.never rfl (pi_range1 (by rfl) T.m_range (pa_cons (pv 1) pa_nil)) (pg_name (i := 3) sc_marks_by.nd rfl (Or.inl rfl))
      (pss_cons (ps_set (i := 4) sc_marks_by.nd rfl (Or.inl rfl) pe_int)
      (pss_cons (ps_if (pt_cmpR op_lt (pv 3) (pe_callB call_len_seq (by rfl) T.m_len PySem.boot_len (pa_cons (pv 0) pa_nil)) (nomark _))
      (pss_one (ps_set (i := 4) sc_marks_by.nd rfl (Or.inl rfl) (pe_ix ix_list (pv 0) (pv 3) (fun _ _ => rfl)))) pss_nil)
      (pss_cons (ps_set (i := 5) sc_marks_by.nd rfl (Or.inl rfl) (pe_op op_sub (pv 4) (pe_op op_sub (pe_op op_sub (pv 1) pe_int) (pv 3))))
      (pss_cons (ps_if (PW.pt (pw_or (pt_cmpR op_lt (pv 5) pe_int (nomark _)) (pw_or1 (pt_cmpR op_gt (pv 5) pe_int (nomark _)))))
      (pss_one (ps_ret (pe_lst pa_nil))) pss_nil)
      (pss_one (ps_expr (pe_bm PySem.F.plainAttrs_list PySem.F.slot_list_append PySem.F.type_list_append mt_append (pv 2) (pa_cons (pv 5) pa_nil)))))))))
      (pss_one (ps_ret (pv 2))))))), ?_⟩
  obtain ⟨n, en⟩ : ∃ n : Nat, ns.sum = n := ⟨ns.sum.toNat, by omega⟩
  refine ⟨_, rfl, a, ns, rfl, sq hS, n, congrArg (fun z => [V.int z]) en, by omega, by omega, ?_⟩
  have hst := stair_le (n := n) (by omega) (b := 14) (by omega) (by omega)
  have hst1 := (stair_spec (n := n) (by omega)).1
  unfold marksBy at q
  rw [en, Int.toNat_natCast] at q
  generalize stair n = S at *
  refine ⟨_, rfl, a, _, rfl, .inl (sq hS), _, rfl, _, _, rfl, rfl, _, rfl, ite2 (fun c => ?_) (fun c => ?_)⟩
  · have c' : (S : Int) < ((ns.map V.int).length : Int) := of_decide_eq_true c
    rw [nlen] at c'
    rw [if_pos (by omega)] at q
    exact ⟨Nat.zero_le _, fun p np => q _ p (same_new np _) np upd_same⟩
  · have c' : ¬ (S : Int) < ((ns.map V.int).length : Int) := fun h => c (decide_eq_true h)
    rw [nlen] at c'
    rw [if_neg (by omega)] at q
    refine ⟨Nat.zero_le _, fun D nD => ⟨_, rfl, S, rfl, by omega, by omega, for_range (lo := 0) (n := (S : Int).toNat) (fun i σ H' => ∃ y1 y2 y3, σ = [some (.ref a), some (.int S), some (.ref D), y1, y2, y3] ∧ Same H H' ∧ IL H' D ((marksAt S ns).take i) ∧ ∀ m ∈ (marksAt S ns).take i, 0 ≤ m ∧ m ≤ 1) ⟨none, none, none, rfl, same_new nD _, upd_same, fun m hm => by cases hm⟩ ?_ ?_⟩⟩
    · intro i σ H' hi h
      obtain ⟨y1, y2, y3, rfl, sm, eD, hall⟩ := h
      have hi : i < S := by omega
      have gm := marksAt_get (ns := ns) hi
      have bad : (¬ (0 ≤ ns.getD i 0 - ((S : Int) - 1 - (i : Int)) ∧ ns.getD i 0 - ((S : Int) - 1 - (i : Int)) ≤ 1)) → NL Q H [] := fun hb => by
        rw [if_neg] at q
        · exact q
        · intro e
          have := isBits_iff.mp e _ (List.mem_of_getElem? gm)
          omega
      -- pile
      have hlm : ((marksAt S ns).take i).length = i := by
        rw [List.length_take, marksAt_len]
        omega
      have hnext : ∀ m ∈ (marksAt S ns).take i ++ [ns.getD i 0 - ((S : Int) - 1 - (i : Int))], 0 ≤ ns.getD i 0 - ((S : Int) - 1 - (i : Int)) → ns.getD i 0 - ((S : Int) - 1 - (i : Int)) ≤ 1 → 0 ≤ m ∧ m ≤ 1 := fun m hm h0 h1 => by
        rcases List.mem_append.mp hm with hm | hm
        · exact hall m hm
        · rw [List.mem_singleton.mp hm]
          exact ⟨h0, h1⟩
      refine ⟨_, rfl, _, rfl, a, _, rfl, .inl (sq (sm _ _ hS)), _, _, rfl, rfl, _, rfl, ite2 (fun c => ?p1) (fun c => ?p2)⟩
      case' p1 =>
        have ci : (0 : Int) + (i : Int) < ((ns.map V.int).length : Int) := of_decide_eq_true c
        rw [nlen] at ci
        have hil : i < ns.length := by omega
        have gi : ns[i]? = some ns[i] := List.getElem?_eq_getElem hil
        have ep : ns[i] = ns.getD i 0 := by rw [List.getD_eq_getElem?_getD, gi] <;> rfl
        refine ⟨_, rfl, _, rfl, a, _, _, .int ns[i], rfl, rfl, sq (sm _ _ hS), at_of (j := i) (by omega) (int_get gi), ?_⟩
      case' p2 =>
        have ci : ¬ (0 : Int) + (i : Int) < ((ns.map V.int).length : Int) := fun h => c (decide_eq_true h)
        rw [nlen] at ci
        have ep : (0 : Int) = ns.getD i 0 := by rw [List.getD_eq_getElem?_getD, List.getElem?_eq_none (by omega)] <;> rfl
      all_goals
        refine ⟨_, rfl, _, rfl, _, _, rfl, rfl, _, rfl, _, _, rfl, rfl, _, _, rfl, rfl, ?_⟩
        refine ⟨_, rfl, _, _, rfl, rfl, _, rfl, ite2 (fun d => ?_) (fun d => ⟨_, rfl, _, _, rfl, rfl, _, rfl, ite2 (fun e => ?_) (fun e => ?_)⟩)⟩
        · refine ⟨Nat.zero_le _, fun p np => bad ?_ _ p (sm.trans (same_new np _)) (sm.free np) upd_same⟩
          intro hb
          have d1 := of_decide_eq_true d
          first
            | (have d2 : ns[i] - ((S : Int) - 1 - (0 + (i : Int))) < 0 := d1; omega)
            | (have d2 : (0 : Int) - ((S : Int) - 1 - (0 + (i : Int))) < 0 := d1; omega)
        · refine ⟨Nat.zero_le _, fun p np => bad ?_ _ p (sm.trans (same_new np _)) (sm.free np) upd_same⟩
          intro hb
          have d1 := of_decide_eq_true e
          first
            | (have d2 : (1 : Int) < ns[i] - ((S : Int) - 1 - (0 + (i : Int))) := d1; omega)
            | (have d2 : (1 : Int) < (0 : Int) - ((S : Int) - 1 - (0 + (i : Int))) := d1; omega)
        · have ev : ∀ z : Int, z = ns.getD i 0 → z - ((S : Int) - 1 - (0 + (i : Int))) = ns.getD i 0 - ((S : Int) - 1 - (i : Int)) := fun z hz => by omega
          have h0 : 0 ≤ ns.getD i 0 - ((S : Int) - 1 - (i : Int)) := by
            have d1 := fun h => d (decide_eq_true h)
            first
              | (have d2 : ¬ ns[i] - ((S : Int) - 1 - (0 + (i : Int))) < 0 := d1; omega)
              | (have d2 : ¬ (0 : Int) - ((S : Int) - 1 - (0 + (i : Int))) < 0 := d1; omega)
          have h1 : ns.getD i 0 - ((S : Int) - 1 - (i : Int)) ≤ 1 := by
            have d1 := fun h => e (decide_eq_true h)
            first
              | (have d2 : ¬ (1 : Int) < ns[i] - ((S : Int) - 1 - (0 + (i : Int))) := d1; omega)
              | (have d2 : ¬ (1 : Int) < (0 : Int) - ((S : Int) - 1 - (0 + (i : Int))) := d1; omega)
          refine ⟨_, rfl, .inl ⟨rfl, _, sq eD⟩, _, rfl, D, _, _, rfl, rfl, eD, by rw [nlen, hlm]; exact smallL (by omega), ?_⟩
          refine ⟨_, _, _, rfl, same_mut sm nD _, ?_, fun m hm => ?_⟩
          · show upd _ _ _ _ = _
            rw [upd_same, take_snoc gm, List.map_append, ← ev _ ep] <;> rfl
          · rw [take_snoc gm] at hm
            exact hnext m hm h0 h1
    · intro σ H' h
      obtain ⟨y1, y2, y3, rfl, sm, eD, hall⟩ := h
      rw [Int.toNat_natCast, List.take_of_length_le (by rw [marksAt_len]; exact Nat.le_refl _)] at eD hall
      rw [if_pos (isBits_iff.mpr fun m hm => by have := hall m hm; omega)] at q
      exact ⟨_, rfl, q H' D sm nD eD⟩

end

section
variable {P : Program} {w : World} {K : PySem.W.Frag} {mg : Str → Option Value} {base : Heap}
theorem sc_is_setting : FnScope ["piles", "k"] ["piles"] (defScope s_is_setting) := ⟨rfl, rfl, rfl, by decide +kernel, rfl, by decide +kernel, by decide +kernel⟩
def sp_is_setting : Sp := fun vs H Q _ => ∃ (a : Addr) (ns : List Int), vs = [.ref a] ∧ IL H a ns ∧ ns.length ≤ 1000 ∧ ∀ b : Bool, (b = true ↔ Good ns ∧ ns.sum ≤ 100) → Q (.bl b) H
theorem ok_is_setting (T : Txt K mg) : Cal P w K mg base CX0 1 "is_setting" ["piles"] sp_is_setting := by
  refine cal_mk T.d_is_setting sc_is_setting ?_ (fun _ _ _ _ _ _ us hl => match us, hl with | [_], _ => rfl) (fun f cdv A outer s H vs Q E hr h => ?_)
  · intro vs H Q E h
    obtain ⟨a, ns, rfl, _⟩ := h
    rfl
  obtain ⟨a, ns, rfl, hS, hl, q⟩ := h
  refine ⟨_, (pss_cons (ps_if (PW.pt (pw_or (pt_cmpR op_lt (pe_callB call_len_seq (by rfl) T.m_len PySem.boot_len (pa_cons (pv 0) pa_nil)) pe_int (nomark _)) (pw_or1 (pt_cmpR op_gt (pe_callB (cr_sum rfl) (by rfl) T.m_sum (by decide +kernel) (pa_cons (pv 0) pa_nil)) (pe_globX T.c_MOST) (nomark _)))))
      (pss_one (ps_ret pe_bl)) pss_nil)
      (pss_cons (ps_for PassesOwn.never rfl (pi_range1 (by rfl) T.m_range (pa_cons (pe_callB call_len_seq (by rfl) T.m_len PySem.boot_len (pa_cons (pv 0) pa_nil)) pa_nil)) (pg_name (i := 1) sc_is_setting.nd rfl (Or.inl rfl))
      (pss_cons (ps_if (pt_cmpR op_lt (pe_ix ix_list (pv 0) (pv 1) (fun _ _ => rfl)) pe_int (nomark _))
      (pss_one (ps_ret pe_bl)) pss_nil)
      (pss_one (ps_if (PW.pt (pw_and (pt_cmpR op_gt (pv 1) pe_int (nomark _)) (pw_and1 (pt_cmpR op_gt (pe_ix ix_list (pv 0) (pv 1) (fun _ _ => rfl)) (pe_ix ix_list (pv 0) (pe_op op_sub (pv 1) pe_int) (fun _ _ => rfl)) (nomark _)))))
      (pss_one (ps_ret pe_bl)) pss_nil))))
      (pss_one (ps_ret pe_bl)))), ?_⟩
  have no : (¬ (Good ns ∧ ns.sum ≤ 100)) → Q (.bl false) H := fun h => q false ⟨fun z => (by cases z), fun z => absurd z h⟩
  refine ⟨_, rfl, a, _, rfl, .inl (sq hS), _, _, rfl, rfl, _, rfl, ite2 (fun c => ?_) (fun c => ⟨_, rfl, a, ns, rfl, sq hS, _, _, rfl, rfl, _, rfl, ite2 (fun c2 => ?_) (fun c2 => ?_)⟩)⟩
  · refine no fun h => ?_
    have c' : ((ns.map V.int).length : Int) < 1 := of_decide_eq_true c
    rw [nlen] at c'
    have := List.length_pos_iff.mpr h.1.ne
    omega
  · refine no fun h => ?_
    have c' : (100 : Int) < ns.sum := of_decide_eq_true c2
    omega
  · have c1' : ¬ ((ns.map V.int).length : Int) < 1 := fun h => c (decide_eq_true h)
    have c2' : ¬ (100 : Int) < ns.sum := fun h => c2 (decide_eq_true h)
    rw [nlen] at c1'
    refine ⟨_, rfl, a, _, rfl, .inl (sq hS), _, rfl, by rw [nlen]; omega, by rw [nlen]; omega, for_range (lo := 0) (n := ((ns.map V.int).length : Int).toNat) (fun i σ H' => ∃ y, σ = [some (.ref a), y] ∧ H' = H ∧ Adj ns i) ⟨none, rfl, rfl, fun j hj => by omega⟩ ?_ ?_⟩
    · intro i σ H' hi h
      obtain ⟨y, rfl, rfl, ha⟩ := h
      rw [nlen] at hi
      have hi : i < ns.length := by omega
      have gi : ns[i]? = some ns[i] := List.getElem?_eq_getElem hi
      have ai : atI (ns.map V.int) (0 + (i : Int)) = some (.int ns[i]) := at_of (j := i) (by omega) (int_get gi)
      refine ⟨_, rfl, _, rfl, a, _, _, .int ns[i], rfl, rfl, sq hS, ai, _, _, rfl, rfl, _, rfl, ite2 (fun d => ?_) (fun d => ?_)⟩
      · refine no fun h => ?_
        have d' : ns[i] < 1 := of_decide_eq_true d
        have := ((good_adj.mp h.1).2 i hi _ gi).1
        omega
      · have d' : ¬ ns[i] < 1 := fun h => d (decide_eq_true h)
        have more : (∀ y, 0 < i → ns[i - 1]? = some y → ns[i] ≤ y) → Adj ns (i + 1) := fun hy j hj x hx => by
          rcases Nat.lt_or_ge j i with l | l
          · exact ha j l x hx
          · obtain rfl : j = i := by omega
            obtain rfl : ns[j] = x := Option.some.inj (gi.symm.trans hx)
            exact ⟨by omega, hy⟩
        refine ⟨_, rfl, _, _, rfl, rfl, _, rfl, ite2 (fun e => ?_) (fun e => ?_)⟩
        · have e' : (0 : Int) < 0 + (i : Int) := of_decide_eq_true e
          have gp : ns[i - 1]? = some (ns[i - 1]'(by omega)) := List.getElem?_eq_getElem (by omega)
          refine ⟨_, rfl, _, rfl, a, _, _, .int ns[i], rfl, rfl, sq hS, ai, _, rfl, _, rfl, _, _, rfl, rfl, a, _, _, .int (ns[i - 1]'(by omega)), rfl, rfl, sq hS, at_of (j := i - 1) (by omega) (int_get gp), _, _, rfl, rfl, _, rfl, ite2 (fun f => ?_) (fun f => ?_)⟩
          · refine no fun h => ?_
            have f' : ns[i - 1]'(by omega) < ns[i] := of_decide_eq_true f
            have := ((good_adj.mp h.1).2 i hi _ gi).2 _ (by omega) gp
            omega
          · have f' : ¬ ns[i - 1]'(by omega) < ns[i] := fun h => f (decide_eq_true h)
            refine ⟨_, rfl, rfl, more fun y _ hy => ?_⟩
            rw [gp] at hy
            have := Option.some.inj hy
            omega
        · have e' : ¬ (0 : Int) < 0 + (i : Int) := fun h => e (decide_eq_true h)
          exact ⟨_, rfl, rfl, more fun y h0 _ => by omega⟩
    · intro σ H' h
      obtain ⟨y, rfl, rfl, ha⟩ := h
      rw [nlen, Int.toNat_natCast] at ha
      exact q true ⟨fun _ => ⟨good_adj.mpr ⟨fun e => by rw [e] at c1'; exact c1' (by decide), ha⟩, by omega⟩, fun _ => rfl⟩

end

section
variable {P : Program} {w : World} {K : PySem.W.Frag} {mg : Str → Option Value} {base : Heap}
theorem sc_must_be : FnScope ["piles"] ["piles"] (defScope s_must_be) := ⟨rfl, rfl, rfl, by decide +kernel, rfl, by decide +kernel, by decide +kernel⟩
/-- what is no setting is refused -/
def sp_must_be (K : PySem.W.Frag) : Sp := fun vs H Q E => ∃ (a : Addr) (ns : List Int), vs = [.ref a] ∧ IL H a ns ∧ ns.length ≤ 1000 ∧ ((Good ns ∧ ns.sum ≤ 100) → Q .non H) ∧ (¬ (Good ns ∧ ns.sum ≤ 100) → E (.ref (He.ga K "NoPiles")) none H)
theorem Good.le100 {ns : List Int} (h : Good ns) (h2 : ns.sum ≤ 100) : ns.length ≤ 100 := by
  have := len_le_sum h.pos
  omega
theorem ok_must_be (T : Txt K mg) : Cal P w K mg base (L2N.CX P w) 2 "must_be" ["piles"] (sp_must_be K) := by
  have C_is_setting := ok_is_setting (P := P) (w := w) (base := base) T
  refine cal_mkX T.d_must_be sc_must_be ?_ (fun _ _ _ _ _ _ us hl => match us, hl with | [_], _ => rfl) (fun f cdv A outer s H vs Q E hr h tk => ?_)
  · intro vs H Q E h
    obtain ⟨a, ns, rfl, _⟩ := h
    rfl
  obtain ⟨a, ns, rfl, hS, hl, q, e⟩ := h
  refine ⟨_, (pss_one (ps_if (pt_not (pt_val (pe_callF C_is_setting (hr.mono (by decide)) (pa_cons (pv 0) pa_nil))))
      (pss_one (L2N.ps_raise rfl tk (pmk_x (T.xc "NoPiles" (by decide)) (by rfl)))) pss_nil)), ?_⟩
  refine ⟨_, rfl, a, ns, rfl, hS, hl, fun b hb => ?_⟩
  cases b with
  | true => exact ⟨true, rfl, q (hb.mp rfl)⟩
  | false => exact ⟨false, rfl, e fun h => by have := hb.mpr h; cases this⟩

end

section
variable {P : Program} {w : World} {K : PySem.W.Frag} {mg : Str → Option Value} {base : Heap}
theorem sc_marks_of : FnScope ["piles", "found"] ["piles"] (defScope s_marks_of) := ⟨rfl, rfl, rfl, by decide +kernel, rfl, by decide +kernel, by decide +kernel⟩
def sp_marks_of (K : PySem.W.Frag) : Sp := fun vs H Q E => ∃ (a : Addr) (ns : List Int), vs = [.ref a] ∧ IL H a ns ∧ ns.length ≤ 1000 ∧ (¬ (Good ns ∧ ns.sum ≤ 100) → E (.ref (He.ga K "NoPiles")) none H) ∧
  (Good ns → ns.sum ≤ 100 → marksBy ns = [] → ∀ H', Same H H' → E (.ref (He.ga K "NotRound")) none H') ∧ (Good ns → ns.sum ≤ 100 → marksBy ns ≠ [] → NL Q H (marksBy ns))
theorem ok_marks_of (T : Txt K mg) : Cal P w K mg base (L2N.CX P w) 3 "marks_of" ["piles"] (sp_marks_of K) := by
  have C_marks_by := ok_marks_by (P := P) (w := w) (base := base) T
  have C_must_be := ok_must_be (P := P) (w := w) (base := base) T
  refine cal_mkX T.d_marks_of sc_marks_of ?_ (fun _ _ _ _ _ _ us hl => match us, hl with | [_], _ => rfl) (fun f cdv A outer s H vs Q E hr h tk => ?_)
  · intro vs H Q E h
    obtain ⟨a, ns, rfl, _⟩ := h
    rfl
  obtain ⟨a, ns, rfl, hS, hl, e1, e2, q⟩ := h
  refine ⟨_, (pss_cons (ps_expr (pe_callX C_must_be tk (hr.mono (by decide)) (pa_cons (pv 0) pa_nil)))
      (pss_cons (ps_set (i := 1) sc_marks_of.nd rfl (Or.inl rfl) (pe_callF C_marks_by (hr.mono (by decide)) (pa_cons (pv 0) pa_nil)))
      (pss_cons (ps_if (pt_cmpR op_eq (pe_callB call_len_seq (by rfl) T.m_len PySem.boot_len (pa_cons (pv 1) pa_nil)) pe_int (nomark _))
      (pss_one (L2N.ps_raise rfl tk (pmk_x (T.xc "NotRound" (by decide)) (by rfl)))) pss_nil)
      (pss_one (ps_ret (pv 1)))))), ?_⟩
  refine ⟨_, rfl, a, ns, rfl, hS, hl, fun ⟨hg, hs⟩ => ?_, e1⟩
  refine ⟨_, rfl, a, ns, rfl, hS, hg, hs, fun H1 p sm np ep => ?_⟩
  refine ⟨_, rfl, p, _, rfl, .inl (sq ep), rfl, _, rfl, ite2 (fun c => ?_) (fun c => ?_)⟩
  · have c' := V.int.inj (of_decide_eq_true c)
    rw [nlen] at c'
    exact e2 hg hs (List.eq_nil_of_length_eq_zero (by omega)) _ sm
  · refine ⟨_, rfl, q hg hs (fun e => c ?_) H1 p sm np ep⟩
    rw [e]
    exact decide_eq_true rfl

end

section
variable {P : Program} {w : World} {K : PySem.W.Frag} {mg : Str → Option Value} {base : Heap}
theorem sc_is_round : FnScope ["piles"] ["piles"] (defScope s_is_round) := ⟨rfl, rfl, rfl, by decide +kernel, rfl, by decide +kernel, by decide +kernel⟩
def sp_is_round (K : PySem.W.Frag) : Sp := fun vs H Q E => ∃ (a : Addr) (ns : List Int), vs = [.ref a] ∧ IL H a ns ∧ ns.length ≤ 1000 ∧ (¬ (Good ns ∧ ns.sum ≤ 100) → E (.ref (He.ga K "NoPiles")) none H) ∧
  (Good ns → ns.sum ≤ 100 → ∀ H', Same H H' → Q (.bl (decide (marksBy ns ≠ []))) H')
theorem ok_is_round (T : Txt K mg) : Cal P w K mg base (L2N.CX P w) 3 "is_round" ["piles"] (sp_is_round K) := by
  have C_marks_by := ok_marks_by (P := P) (w := w) (base := base) T
  have C_must_be := ok_must_be (P := P) (w := w) (base := base) T
  refine cal_mkX T.d_is_round sc_is_round ?_ (fun _ _ _ _ _ _ us hl => match us, hl with | [_], _ => rfl) (fun f cdv A outer s H vs Q E hr h tk => ?_)
  · intro vs H Q E h
    obtain ⟨a, ns, rfl, _⟩ := h
    rfl
  obtain ⟨a, ns, rfl, hS, hl, e1, q⟩ := h
  refine ⟨_, (pss_cons (ps_expr (pe_callX C_must_be tk (hr.mono (by decide)) (pa_cons (pv 0) pa_nil)))
      (pss_one (ps_ret (pe_cmpR op_gt (pe_callB call_len_seq (by rfl) T.m_len PySem.boot_len (pa_cons (pe_callF C_marks_by (hr.mono (by decide)) (pa_cons (pv 0) pa_nil)) pa_nil)) pe_int (nomark _))))), ?_⟩
  refine ⟨_, rfl, a, ns, rfl, hS, hl, fun ⟨hg, hs⟩ => ?_, e1⟩
  refine ⟨_, rfl, a, ns, rfl, hS, hg, hs, fun H1 p sm np ep => ?_⟩
  have hd : decide ((0 : Int) < (((marksBy ns).map V.int).length : Int)) = decide (marksBy ns ≠ []) := by
    cases marksBy ns with
    | nil => rfl
    | cons x r =>
      rw [decide_eq_true (List.cons_ne_nil _ _)]
      exact decide_eq_true (by rw [nlen, List.length_cons]; omega)
  have z := q hg hs H1 sm
  rw [← hd] at z
  exact ⟨_, _, rfl, .inl (sq ep), _, _, rfl, rfl, z⟩

end

section
variable {P : Program} {w : World} {K : PySem.W.Frag} {mg : Str → Option Value} {base : Heap}
theorem sc_law_which : FnScope ["e", "told"] ["e"] (defScope s_law_which) := ⟨rfl, rfl, rfl, by decide +kernel, rfl, by decide +kernel, by decide +kernel⟩
def sp_law_which (K : PySem.W.Frag) (cls : Value) (d : Option Addr) (a : Addr) : Sp := fun vs H Q _ => ∃ (j : Nat) (x : Str), cls = .ref (He.ga K x) ∧ d = none ∧ eNames[j]? = some x ∧ vs = [.ref a] ∧ ∀ H', Same H H' → Q (.int (j : Int)) H'
theorem names5 : ∀ j : Fin 5, ∀ i : Fin 5, decide (eNames.getD j.1 "" = eNames.getD i.1 "") = decide (j.1 = i.1) := by decide +kernel
theorem names_at {j : Nat} {x : Str} (h : eNames[j]? = some x) : j < 5 ∧ ∀ (i : Nat) (y : Str), eNames[i]? = some y → decide (x = y) = decide (j = i) := by
  have hj : j < 5 := (List.getElem?_eq_some_iff.mp h).1
  refine ⟨hj, fun i y hy => ?_⟩
  have hi : i < 5 := (List.getElem?_eq_some_iff.mp hy).1
  have := names5 ⟨j, hj⟩ ⟨i, hi⟩
  rw [List.getD_eq_getElem?_getD, List.getD_eq_getElem?_getD, h, hy] at this
  exact this
theorem ok_law_which (T : Txt K mg) {a : Addr} {oe : Obj} {cls : Value} {d : Option Addr} (hz : L2N.Zn cls d oe) (hf : ∃ vs, oe.data = .fields vs) : CalP P w K mg base CX0 1 "_law_which" ["e"] (sp_law_which K cls d a) (a, oe) := by
  refine cal_mkP T.d_law_which sc_law_which ?_ (fun _ _ _ _ _ _ us hl => match us, hl with | [_], _ => rfl) (fun f cdv A outer s H vs Q E hr h => ?_)
  · intro vs H Q E h
    obtain ⟨j, x, _, _, _, rfl, _⟩ := h
    rfl
  obtain ⟨j, x, rfl, rfl, hj, rfl, q⟩ := h
  have hx : x ∈ eNames := List.mem_of_getElem? hj
  have X := T.xc x hx
  have is := X.is
  refine ⟨_, (pss_cons (ps_set (i := 1) sc_law_which.nd rfl (Or.inl rfl) (pe_lst (pa_cons (pe_callB (call_isP (T.xc _ hx).ec hz.zc hf (List.mem_cons_self ..)) (by rfl) T.m_isinstance (by decide +kernel) (pa_cons (pv 0) (pa_cons (pe_cls (T.xc "NoPiles" (by decide))) pa_nil))) (pa_cons (pe_callB (call_isP (T.xc _ hx).ec hz.zc hf (List.mem_cons_self ..)) (by rfl) T.m_isinstance (by decide +kernel) (pa_cons (pv 0) (pa_cons (pe_cls (T.xc "NotRound" (by decide))) pa_nil))) (pa_cons (pe_callB (call_isP (T.xc _ hx).ec hz.zc hf (List.mem_cons_self ..)) (by rfl) T.m_isinstance (by decide +kernel) (pa_cons (pv 0) (pa_cons (pe_cls (T.xc "NoMarks" (by decide))) pa_nil))) pa_nil)))))
      (pss_cons (ps_set (i := 1) sc_law_which.nd rfl (Or.inl rfl) (pe_op op_cat (pv 1) (pe_lst (pa_cons (pe_callB (call_isP (T.xc _ hx).ec hz.zc hf (List.mem_cons_self ..)) (by rfl) T.m_isinstance (by decide +kernel) (pa_cons (pv 0) (pa_cons (pe_cls (T.xc "NoNumber" (by decide))) pa_nil))) (pa_cons (pe_callB (call_isP (T.xc _ hx).ec hz.zc hf (List.mem_cons_self ..)) (by rfl) T.m_isinstance (by decide +kernel) (pa_cons (pv 0) (pa_cons (pe_cls (T.xc "NoNote" (by decide))) pa_nil))) pa_nil)))))
      (pss_cons (ps_if (PW.pt (pw_or (pt_not (pt_val (pe_callB (call_isP (T.xc _ hx).ec hz.zc hf (List.mem_cons_self ..)) (by rfl) T.m_isinstance (by decide +kernel) (pa_cons (pv 0) (pa_cons (pe_bltn (v := .ty "ValueError") (by rfl) T.m_ValueError (by decide +kernel) rfl) pa_nil))))) (pw_or1 (pt_cmpR op_ne (pe_bm PySem.F.plainAttrs_list PySem.F.slot_list_count PySem.F.type_list_count mt_fcount (pv 1) (pa_cons pe_bl pa_nil)) pe_int (nomark _)))))
      (pss_one (ps_ret pe_int)) pss_nil)
      (pss_one (ps_ret (pe_bm PySem.F.plainAttrs_list PySem.F.slot_list_index PySem.F.type_list_index mt_index (pv 1) (pa_cons pe_bl pa_nil))))))), ?_⟩
  have k : ∀ y ∈ eNames, PySem.W.kitOne K (.ref (He.ga K x)) (.ref (He.ga K y)) = some (decide (x = y)) := is
  have R : ∀ (y : Str) (u : Value), RelV (V.ref (He.ga K y)) u → u = .ref (He.ga K y) := fun y u r => r
  have l3 : ∀ (n : Nat), n ≤ 5 → n ≤ sizeLine := fun n h => Nat.le_trans h (by decide)
  refine ⟨_, rfl, _, _, _, rfl, R _, k _ (by decide), _, rfl, _, _, _, rfl, R _, k _ (by decide), _, rfl, _, _, _, rfl, R _, k _ (by decide), l3 3 (by decide), fun p np => ?_⟩
  refine ⟨_, rfl, _, rfl, _, _, _, rfl, R _, k _ (by decide), _, rfl, _, _, _, rfl, R _, k _ (by decide), l3 2 (by decide), fun p2 np2 => ?_⟩
  have s1 := same_new np (.lst [V.bl (decide (x = "NoPiles")), V.bl (decide (x = "NotRound")), V.bl (decide (x = "NoMarks"))])
  have s2 := same_new np2 (.lst [V.bl (decide (x = "NoNumber")), V.bl (decide (x = "NoNote"))])
  refine ⟨p, p2, _, _, rfl, rfl, s2 _ _ upd_same, upd_same, l3 5 (by decide), fun p3 np3 => ?_⟩
  have s3 := same_new np3 (.lst ([V.bl (decide (x = "NoPiles")), V.bl (decide (x = "NotRound")), V.bl (decide (x = "NoMarks"))] ++ [V.bl (decide (x = "NoNumber")), V.bl (decide (x = "NoNote"))]))
  refine ⟨_, rfl, .ty "ValueError", .type "ValueError", true, rfl, fun u r => r, X.ve, ?_⟩
  obtain ⟨hj5, hn⟩ := names_at hj
  rw [hn 0 "NoPiles" rfl, hn 1 "NotRound" rfl, hn 2 "NoMarks" rfl, hn 3 "NoNumber" rfl, hn 4 "NoNote" rfl] at *
  have hq := fun o3 => q _ ((s1.trans s2).trans (same_new np3 o3))
  have h5 : j = 0 ∨ j = 1 ∨ j = 2 ∨ j = 3 ∨ j = 4 := by omega
  refine ⟨true, rfl, _, rfl, .inl ⟨rfl, _, sq upd_same⟩, p3, _, _, rfl, rfl, sq upd_same, rfl, rfl, ?_⟩
  rcases h5 with rfl | rfl | rfl | rfl | rfl
  all_goals
    refine ⟨rfl, _, rfl, ite2 (fun c => absurd c (by decide)) (fun _ => ?_)⟩
    refine ⟨_, rfl, .inl ⟨rfl, _, sq upd_same⟩, p3, _, _, _, .bl true, rfl, rfl, sq upd_same, rfl, rfl, ?_, rfl, ?_, hq _⟩
  all_goals
    first
      | rfl
      | (intro m z' hm hz
         have h4 : m = 0 ∨ m = 1 ∨ m = 2 ∨ m = 3 := by omega
         rcases h4 with rfl | rfl | rfl | rfl <;> first | omega | (cases hz; rfl))

end

section
variable {P : Program} {w : World} {K : PySem.W.Frag} {mg : Str → Option Value} {base : Heap}
theorem sc_law_cell : FnScope ["script", "k", "base"] ["script", "k"] (defScope s_law_cell) := ⟨rfl, rfl, rfl, by decide +kernel, rfl, by decide +kernel, by decide +kernel⟩
/-- any number may stand in a cell -/
def sp_law_cell (K : PySem.W.Frag) : Sp := fun vs H Q _ => ∃ (a : Addr) (ns : List Int) (k : Int), vs = [.ref a, .int k] ∧ SL K H a ns ∧ 0 ≤ k ∧ ∀ z, Q (.int z) H
theorem ok_law_cell (T : Txt K mg) : Cal P w K mg base CX0 1 "_law_cell" ["script", "k"] (sp_law_cell K) := by
  refine cal_mk T.d_law_cell sc_law_cell ?_ (fun _ _ _ _ _ _ us hl => match us, hl with | [_, _], _ => rfl) (fun f cdv A outer s H vs Q E hr h => ?_)
  · intro vs H Q E h
    obtain ⟨a, ns, k, rfl, _⟩ := h
    rfl
  obtain ⟨a, ns, k, rfl, hS, h0, q⟩ := h
  refine ⟨_, (pss_cons (ps_if (pt_cmpR op_lt (pv 1) (pe_callB call_len_seq (by rfl) T.m_len PySem.boot_len (pa_cons (pv 0) pa_nil)) (nomark _))
      (pss_one (ps_ret (pe_ix ix_list (pv 0) (pv 1) (fun _ _ => rfl)))) pss_nil)
      (pss_cons (ps_set (i := 2) sc_law_cell.nd rfl (Or.inl rfl) pe_int)
      (pss_cons (ps_if (pt_cmpR op_gt (pe_callB call_len_seq (by rfl) T.m_len PySem.boot_len (pa_cons (pv 0) pa_nil)) pe_int (nomark _))
      (pss_one (ps_set (i := 2) sc_law_cell.nd rfl (Or.inl rfl) (pe_ix ix_list (pv 0) pe_int (fun _ _ => rfl)))) pss_nil)
      (pss_one (ps_ret (pe_op op_mod (pe_op op_add (pe_op op_mul (pe_op op_mod (pv 2) pe_int) pe_int) (pe_op op_mul (pv 1) pe_int)) pe_int)))))), ?_⟩
  refine ⟨_, rfl, _, rfl, a, _, rfl, .inl hS, _, _, rfl, rfl, _, rfl, ite2 (fun c => ?_) (fun c => ?_)⟩
  · have c' : k < ((ns.map V.int).length : Int) := of_decide_eq_true c
    rw [List.length_map] at c'
    obtain ⟨j, rfl⟩ : ∃ j : Nat, k = j := ⟨k.toNat, by omega⟩
    have hj : j < ns.length := by omega
    exact ⟨_, rfl, _, rfl, a, _, _, .int ns[j], rfl, rfl, hS, atI_nat (int_get (List.getElem?_eq_getElem hj)), q _⟩
  · refine ⟨_, rfl, a, _, rfl, .inl hS, _, _, rfl, rfl, _, rfl, ite2 (fun c => ?_) (fun c => ?_)⟩
    · have c' : (0 : Int) < ((ns.map V.int).length : Int) := of_decide_eq_true c
      rw [List.length_map] at c'
      have hj : 0 < ns.length := by omega
      refine ⟨_, rfl, a, _, 0, .int ns[0], rfl, rfl, hS, atI_nat (j := 0) (int_get (List.getElem?_eq_getElem hj)), ?_⟩
      exact ⟨_, rfl, _, _, rfl, rfl, (by show (0 : Int) < 65521; decide), _, _, rfl, rfl, .inr ⟨by decide, by decide⟩, _, rfl, _, _, rfl, rfl, .inr ⟨by decide, by decide⟩, _, _, rfl, rfl, _, _, rfl, rfl, (by show (0 : Int) < 65521; decide), q _⟩
    · exact ⟨_, rfl, _, _, rfl, rfl, (by show (0 : Int) < 65521; decide), _, _, rfl, rfl, .inr ⟨by decide, by decide⟩, _, rfl, _, _, rfl, rfl, .inr ⟨by decide, by decide⟩, _, _, rfl, rfl, _, _, rfl, rfl, (by show (0 : Int) < 65521; decide), q _⟩

end

section
variable {P : Program} {w : World} {K : PySem.W.Frag} {mg : Str → Option Value} {base : Heap}
theorem sc_law_next : FnScope ["step"] ["step"] (defScope s_law_next) := ⟨rfl, rfl, rfl, by decide +kernel, rfl, by decide +kernel, by decide +kernel⟩
def sp_law_next : Sp := fun vs H Q _ => ∃ n : Int, vs = [.int n] ∧ ∀ z, Q (.int z) H
theorem ok_law_next (T : Txt K mg) : Cal P w K mg base CX0 1 "_law_next" ["step"] sp_law_next := by
  refine cal_mk T.d_law_next sc_law_next ?_ (fun _ _ _ _ _ _ us hl => match us, hl with | [_], _ => rfl) (fun f cdv A outer s H vs Q E hr h => ?_)
  · intro vs H Q E h
    obtain ⟨n, rfl, _⟩ := h
    rfl
  obtain ⟨n, rfl, q⟩ := h
  refine ⟨_, (pss_one (ps_ret (pe_op op_mod (pe_op op_add (pe_op op_mul (pv 0) pe_int) pe_int) pe_int))), ?_⟩
  exact ⟨_, rfl, _, _, rfl, rfl, .inr ⟨by decide, by decide⟩, _, _, rfl, rfl, _, _, rfl, rfl, (by show (0 : Int) < 2147483647; decide), q _⟩

end

section
variable {P : Program} {w : World} {K : PySem.W.Frag} {mg : Str → Option Value} {base : Heap}
theorem sc_law_fallen : FnScope ["piles"] ["piles"] (defScope s_law_fallen) := ⟨rfl, rfl, rfl, by decide +kernel, rfl, by decide +kernel, by decide +kernel⟩
def sp_law_fallen : Sp := fun vs H Q _ => ∃ (a : Addr) (ns : List Int), vs = [.ref a] ∧ IL H a ns ∧ NL Q H (fall ns)
theorem ok_law_fallen (T : Txt K mg) : Cal P w K mg base CX0 1 "_law_fallen" ["piles"] sp_law_fallen := by
  refine cal_mk T.d_law_fallen sc_law_fallen ?_ (fun _ _ _ _ _ _ us hl => match us, hl with | [_], _ => rfl) (fun f cdv A outer s H vs Q E hr h => ?_)
  · intro vs H Q E h
    obtain ⟨a, ns, rfl, _⟩ := h
    rfl
  obtain ⟨a, ns, rfl, hS, q⟩ := h
  refine ⟨_, (pss_one (ps_ret (pe_listRev rfl (by rfl) T.m_list (by rfl) T.m_reversed (pe_callB cr_sortedI (by rfl) T.m_sorted (by decide +kernel) (pa_cons (pv 0) pa_nil))))), ?_⟩
  refine ⟨_, rfl, a, ns, rfl, sq hS, fun ns' p hp hs np => ?_⟩
  refine ⟨p, _, rfl, .inl (.inl upd_same), fun r nr => ?_⟩
  have s1 := same_new np (.lst (ns'.map V.int))
  refine q _ r (s1.trans (same_new nr _)) (s1.free nr) ?_
  show upd _ _ _ _ = _
  rw [upd_same, ← List.map_reverse]
  have e : ns'.reverse = fall ns := fall_eq ((List.reverse_perm ns').trans hp) (List.pairwise_reverse.mpr (hs.imp fun h => h))
  rw [e]

end

section
variable {P : Program} {w : World} {K : PySem.W.Frag} {mg : Str → Option Value} {base : Heap}
theorem sc_law_turned : FnScope ["piles", "pile"] ["piles"] (defScope s_law_turned) := ⟨rfl, rfl, rfl, by decide +kernel, rfl, by decide +kernel, by decide +kernel⟩
def sp_law_turned : Sp := fun vs H Q _ => ∃ (a : Addr) (ns : List Int), vs = [.ref a] ∧ IL H a ns ∧ ns.length ≤ 1000 ∧ NL Q H (fall (down1 ns ++ [(ns.length : Int)]))
theorem ok_law_turned (T : Txt K mg) : Cal P w K mg base CX0 2 "_law_turned" ["piles"] sp_law_turned := by
  have C_law_fallen := ok_law_fallen (P := P) (w := w) (base := base) T
  refine cal_mk T.d_law_turned sc_law_turned ?_ (fun _ _ _ _ _ _ us hl => match us, hl with | [_], _ => rfl) (fun f cdv A outer s H vs Q E hr h => ?_)
  · intro vs H Q E h
    obtain ⟨a, ns, rfl, _⟩ := h
    rfl
  obtain ⟨a, ns, rfl, hS, hl, q⟩ := h
  refine ⟨_, (pss_one (ps_ret (pe_callF C_law_fallen (hr.mono (by decide)) (pa_cons (pe_op op_cat (pe_lc (own := [("pile", 1)]) (g := gName 1) rfl sc_law_turned.nd (pi_list (pv 0)) (blkOk_by (own := [("pile", 1)]) (N := ["piles", "pile"]) (sc := defScope s_law_turned) (by decide +kernel)) (fun _ _ _ _ _ => pg_name (i := 1) sc_law_turned.nd rfl (Or.inl rfl)) (fun _ _ _ _ _ => (pts_one (pt_cmpR op_gt (pv 1) pe_int (nomark _)))) (fun _ _ _ _ _ => (pe_op op_sub (pv 1) pe_int))) (pe_lst (pa_cons (pe_callB call_len_seq (by rfl) T.m_len PySem.boot_len (pa_cons (pv 0) pa_nil)) pa_nil))) pa_nil)))), ?_⟩
  -- the comprehension
  refine ⟨_, rfl, a, rfl, ⟨_, sq hS⟩, fun D nD => lc_list (K := K) (a := a) (xs := ns.map V.int) (fun i H' => Same H H' ∧ H' D = some (.lst ((down1 (ns.take i)).map V.int))) ?_ ?_ ?_ ?_⟩
  · exact ⟨same_new nD _, upd_same⟩
  · exact fun i H' _ h => sq (h.1 _ _ hS)
  · intro i x H' hx h
    obtain ⟨z, hz, rfl⟩ := get_int hx
    obtain ⟨sm, eD⟩ := h
    refine ⟨rfl, .int z, rfl, _, _, rfl, rfl, _, rfl, ?_⟩
    have et : ns.take (i + 1) = ns.take i ++ [z] := by
      rw [List.take_add_one, hz] <;> rfl
    refine ite2 (fun c => ?_) (fun c => ?_)
    · have c' : z > 1 := of_decide_eq_true c
      refine ⟨.int z, rfl, _, _, rfl, rfl, _, eD, ?_, ?_, ?_⟩
      · rw [List.length_map]
        have := down1_length (ns.take i)
        rw [List.length_take] at this
        exact smallL (by omega)
      · exact same_mut sm nD _
      · rw [upd_same, et]
        have : down1 (ns.take i ++ [z]) = down1 (ns.take i) ++ [z - 1] := by
          unfold down1
          rw [List.filter_append, List.map_append]
          congr 1
          rw [List.filter_cons, if_pos (decide_eq_true c')] <;> rfl
        rw [this, List.map_append] <;> rfl
    · have c' : ¬ z > 1 := fun h => c (decide_eq_true h)
      refine ⟨sm, ?_⟩
      rw [et]
      have : down1 (ns.take i ++ [z]) = down1 (ns.take i) := by
        unfold down1
        rw [List.filter_append, List.map_append, List.filter_cons, if_neg (by simp only [decide_eq_true_eq]; exact c')]
        simp
      rw [this]
      exact eD
  · intro H1 h
    obtain ⟨sm, eD⟩ := h
    rw [List.length_map, List.take_length] at eD
    refine ⟨_, rfl, a, _, rfl, .inl (sq (sm _ _ hS)), (by show 1 ≤ sizeLine; decide), fun c nc => ?_⟩
    have nDc : D ≠ c := ne_of_none eD nc
    refine ⟨D, c, _, _, rfl, rfl, by rw [upd_ne nDc]; exact eD, upd_same, ?_, fun e ne => ?_⟩
    · rw [List.length_map]
      have := down1_length ns
      exact small (by show (down1 ns).length + 1 ≤ _; omega)
    · have s2 : Same H (upd (upd H1 c (.lst [.int ((ns.map V.int).length : Int)])) e (.lst ((down1 ns).map V.int ++ [.int ((ns.map V.int).length : Int)]))) := (sm.trans (same_new nc _)).trans (same_new ne _)
      refine ⟨e, down1 ns ++ [(ns.length : Int)], rfl, ?_, fun H' p s3 np ep => q H' p (s2.trans s3) (s2.free np) ep⟩
      show _ = _
      rw [upd_same, List.map_append, List.length_map] <;> rfl

end

section
variable {P : Program} {w : World} {K : PySem.W.Frag} {mg : Str → Option Value} {base : Heap}
theorem sc_law_stair : FnScope ["coins", "stair"] ["coins"] (defScope s_law_stair) := ⟨rfl, rfl, rfl, by decide +kernel, rfl, by decide +kernel, by decide +kernel⟩
def sp_law_stair : Sp := fun vs H Q _ => ∃ n : Nat, vs = [.int n] ∧ 1 ≤ n ∧ n ≤ 100000 ∧ Q (.int (stair n)) H
theorem ok_law_stair (T : Txt K mg) : Cal P w K mg base CX0 1 "_law_stair" ["coins"] sp_law_stair := by
  refine cal_mk T.d_law_stair sc_law_stair ?_ (fun _ _ _ _ _ _ us hl => match us, hl with | [_], _ => rfl) (fun f cdv A outer s H vs Q E hr h => ?_)
  · intro vs H Q E h
    obtain ⟨n, rfl, _⟩ := h
    rfl
  obtain ⟨n, rfl, h1, h2, q⟩ := h
  refine ⟨_, (pss_cons (ps_set (i := 1) sc_law_stair.nd rfl (Or.inl rfl) pe_int)
      (pss_cons (ps_while PassesOwn.never (pt_cmpR op_lt (pe_op op_mul (pv 1) (pe_op op_add (pv 1) pe_int)) (pe_op op_mul pe_int (pv 0)) (nomark _))
      (pss_one (ps_set (i := 1) sc_law_stair.nd rfl (Or.inl rfl) (pe_op op_add (pv 1) pe_int))))
      (pss_one (ps_ret (pv 1))))), ?_⟩
  refine ⟨fun m σ H' => ∃ s : Nat, σ = [some (.int n), some (.int s)] ∧ H' = H ∧ m = 2 * n + 2 - s ∧ 1 ≤ s ∧ (s - 1) * s < 2 * n, ⟨_, 1, rfl, rfl, rfl, Nat.le_refl _, by omega⟩, fun m σ H' hW => ?_⟩
  obtain ⟨s, rfl, rfl, rfl, g1, g2⟩ := hW
  have g3 : s ≤ 2 * n + 1 := by
    have := Nat.mul_le_mul_left (s - 1) g1
    omega
  refine ⟨_, rfl, _, rfl, _, _, rfl, rfl, _, _, rfl, rfl, .inl ⟨by omega, by omega⟩, _, rfl, _, _, rfl, rfl, .inl ⟨by decide, by decide⟩, _, _, rfl, rfl, _, rfl, ite2 (fun c => ?_) (fun c => ?_)⟩
  · have c' : (s : Int) * ((s : Int) + 1) < 2 * (n : Int) := of_decide_eq_true c
    have c2 : s * (s + 1) < 2 * n := by exact_mod_cast c'
    refine ⟨fun σ' H2 => ∃ s' : Nat, s' = s + 1 ∧ σ' = [some (.int n), some (.int s')] ∧ H2 = H', fun σ' H2 h => ?_, ?_⟩
    · obtain ⟨s', rfl, e1, e2⟩ := h
      exact ⟨2 * n + 2 - (s + 1), by omega, s + 1, e1, e2, rfl, by omega, by rw [Nat.add_sub_cancel]; exact c2⟩
    · exact ⟨_, rfl, _, _, rfl, rfl, s + 1, rfl, rfl, rfl⟩
  · have c' : ¬ (s : Int) * ((s : Int) + 1) < 2 * (n : Int) := fun h => c (decide_eq_true h)
    have c2 : 2 * n ≤ s * (s + 1) := by
      have : ¬ s * (s + 1) < 2 * n := fun h => c' (by exact_mod_cast h)
      omega
    rw [← stair_uniq h1 g1 g2 c2] at q
    exact ⟨_, rfl, q⟩

end

section
variable {P : Program} {w : World} {K : PySem.W.Frag} {mg : Str → Option Value} {base : Heap}
theorem sc_law_by_marks : FnScope ["marks", "piles", "k", "pile"] ["marks"] (defScope s_law_by_marks) := ⟨rfl, rfl, rfl, by decide +kernel, rfl, by decide +kernel, by decide +kernel⟩
def sp_law_by_marks : Sp := fun vs H Q _ => ∃ (a : Addr) (ms : List Int), vs = [.ref a] ∧ IL H a ms ∧ ms.length ≤ 1000 ∧ NL Q H (ofMarks ms)
theorem ok_law_by_marks (T : Txt K mg) : Cal P w K mg base CX0 1 "_law_by_marks" ["marks"] sp_law_by_marks := by
  refine cal_mk T.d_law_by_marks sc_law_by_marks ?_ (fun _ _ _ _ _ _ us hl => match us, hl with | [_], _ => rfl) (fun f cdv A outer s H vs Q E hr h => ?_)
  · intro vs H Q E h
    obtain ⟨a, ms, rfl, _⟩ := h
    rfl
  obtain ⟨a, ms, rfl, hS, hl, q⟩ := h
  refine ⟨_, (pss_cons (ps_setLc (i := 1) (own := [("k", 2)]) (g := gName 2) rfl sc_law_by_marks.nd rfl rfl (sw_true rfl rfl rfl (by decide +kernel)) (pi_range1 (by rfl) T.m_range (pa_cons (pe_callB call_len_seq (by rfl) T.m_len PySem.boot_len (pa_cons (pv 0) pa_nil)) pa_nil)) (blkOk_by (own := [("k", 2)]) (N := ["marks", "piles", "k", "pile"]) (sc := defScope s_law_by_marks) (by decide +kernel)) (fun _ _ _ _ _ => pg_name (i := 2) sc_law_by_marks.nd rfl (Or.inl rfl)) (fun _ _ _ _ _ => pts_nil) (fun _ _ _ _ _ => (pe_op op_add (pe_op op_sub (pe_op op_sub (pe_callB (call_len_seqK K) (by rfl) T.m_len PySem.boot_len (pa_cons (pv 0) pa_nil)) pe_int) (pv 2)) (pe_ix (ix_listK K) (pv 0) (pv 2) (fun _ _ => rfl)))))
      (pss_one (ps_ret (pe_lc (own := [("pile", 3)]) (g := gName 3) rfl sc_law_by_marks.nd (pi_list (pv 1)) (blkOk_by (own := [("pile", 3)]) (N := ["marks", "piles", "k", "pile"]) (sc := defScope s_law_by_marks) (by decide +kernel)) (fun _ _ _ _ _ => pg_name (i := 3) sc_law_by_marks.nd rfl (Or.inl rfl)) (fun _ _ _ _ _ => (pts_one (pt_cmpR op_gt (pv 3) pe_int (nomark _)))) (fun _ _ _ _ _ => (pv 3)))))), ?_⟩
  refine ⟨_, rfl, a, _, rfl, .inl (sq hS), _, rfl, by rw [nlen]; omega, by rw [nlen]; omega, fun D nD => lc_range (lo := 0) (n := ((ms.map V.int).length : Int).toNat) (fun i H' => Same H H' ∧ IL H' D ((mk ms).take i)) ⟨same_new nD _, upd_same⟩ ?_ ?_⟩
  · intro i H' hi h
    obtain ⟨sm, eD⟩ := h
    rw [nlen] at hi
    have hi : i < ms.length := by omega
    refine ⟨rfl, _, rfl, a, _, rfl, .inl (sq (sm _ _ hS)), _, _, rfl, rfl, _, rfl, _, _, rfl, rfl, _, rfl, _, rfl, a, _, _, .int ms[i], rfl, rfl, sq (sm _ _ hS), at_of (j := i) (by omega) (int_get (List.getElem?_eq_getElem hi)), _, _, rfl, rfl, _, eD, ?_, same_mut sm nD _, ?_⟩
    · rw [nlen, List.length_take, mk_length]
      exact smallL (by omega)
    · have g := mk_get (List.getElem?_eq_getElem hi)
      show upd _ _ _ _ = _
      rw [upd_same, take_snoc g, List.map_append, nlen]
      congr 4
      simp
  · intro H1 h
    obtain ⟨sm, eD⟩ := h
    rw [nlen, Int.toNat_natCast, ← mk_length, List.take_length] at eD
    refine ⟨_, rfl, D, rfl, ⟨_, sq eD⟩, fun G nG => lc_list (K := K) (a := D) (xs := (mk ms).map V.int) (fun i H' => Same H1 H' ∧ IL H' G (((mk ms).take i).filter fun z => decide (z > 0))) ⟨same_new nG _, upd_same⟩ (fun i H' _ h => sq (h.1 _ _ eD)) ?_ ?_⟩
    · intro i x H' hx h
      obtain ⟨z, hz, rfl⟩ := get_int hx
      obtain ⟨sm2, eG⟩ := h
      refine ⟨rfl, _, rfl, _, _, rfl, rfl, _, rfl, ?_⟩
      rw [take_snoc hz, List.filter_append]
      refine ite2 (fun c => ?_) (fun c => ?_)
      · have c' : z > 0 := of_decide_eq_true c
        refine ⟨_, rfl, _, eG, ?_, same_mut sm2 nG _, ?_⟩
        · rw [nlen]
          have := List.length_filter_le (fun z => decide (z > 0)) ((mk ms).take i)
          rw [List.length_take, mk_length] at this
          exact smallL (by omega)
        · show upd _ _ _ _ = _
          rw [upd_same, List.map_append, List.filter_cons, if_pos (decide_eq_true c')] <;> rfl
      · have c' : ¬ z > 0 := fun h => c (decide_eq_true h)
        refine ⟨sm2, ?_⟩
        rw [List.filter_cons, if_neg (by simp only [decide_eq_true_eq]; exact c'), List.filter_nil, List.append_nil]
        exact eG
    · intro H2 h
      obtain ⟨sm2, eG⟩ := h
      rw [nlen, List.take_length] at eG
      exact q H2 G (sm.trans sm2) (sm.free nG) eG

end

section
variable {P : Program} {w : World} {K : PySem.W.Frag} {mg : Str → Option Value} {base : Heap}
theorem sc_law_drawn_marks : FnScope ["script", "k", "coins", "stair", "ones", "step", "marks", "j"] ["script", "k", "coins"] (defScope s_law_drawn_marks) := ⟨rfl, rfl, rfl, by decide +kernel, rfl, by decide +kernel, by decide +kernel⟩
theorem bits_sum_le {ms : List Int} (h : Bits ms) : 0 ≤ ms.sum := by
  induction ms with
  | nil => exact Int.le_refl 0
  | cons x r ih =>
    have := h x (List.mem_cons_self ..)
    have := ih fun z hz => h z (List.mem_cons_of_mem _ hz)
    rw [List.sum_cons]
    omega
theorem ins_facts {l : List Int} {j : Nat} {x : Int} : (∀ z, z ∈ l.take j ++ [x] ++ l.drop j ↔ z = x ∨ z ∈ l) ∧ (l.take j ++ [x] ++ l.drop j).sum = x + l.sum ∧ (l.take j ++ [x] ++ l.drop j).length = l.length + 1 := by
  have p : (l.take j ++ [x] ++ l.drop j).Perm (x :: l) := by
    have h := (List.perm_middle (a := x) (l₁ := l.take j) (l₂ := l.drop j))
    rw [List.take_append_drop] at h
    rw [List.append_assoc]
    exact h
  exact ⟨fun z => by rw [p.mem_iff, List.mem_cons], by rw [perm_sum p, List.sum_cons], p.length_eq⟩
def sp_law_drawn_marks (K : PySem.W.Frag) : Sp := fun vs H Q _ => ∃ (a : Addr) (ns : List Int) (k : Int) (n : Nat), vs = [.ref a, .int k, .int n] ∧ SL K H a ns ∧ 0 ≤ k ∧ 1 ≤ n ∧ n ≤ 100 ∧
  ∀ ms : List Int, Bits ms → ms.length = stair n → ms.sum = (restOf n : Int) → NL Q H ms
theorem ok_law_drawn_marks (T : Txt K mg) : Cal P w K mg base CX0 2 "_law_drawn_marks" ["script", "k", "coins"] (sp_law_drawn_marks K) := by
  have C_law_cell := ok_law_cell (P := P) (w := w) (base := base) T
  have C_law_next := ok_law_next (P := P) (w := w) (base := base) T
  have C_law_stair := ok_law_stair (P := P) (w := w) (base := base) T
  refine cal_mk T.d_law_drawn_marks sc_law_drawn_marks ?_ (fun _ _ _ _ _ _ us hl => match us, hl with | [_, _, _], _ => rfl) (fun f cdv A outer s H vs Q E hr h => ?_)
  · intro vs H Q E h
    obtain ⟨a, ns, k, n, rfl, _⟩ := h
    rfl
  obtain ⟨a, ns, k, n, rfl, hS, h0, h1, h2, q⟩ := h
  refine ⟨_, (pss_cons (ps_set (i := 3) sc_law_drawn_marks.nd rfl (Or.inl rfl) (pe_callF C_law_stair (hr.mono (by decide)) (pa_cons (pv 2) pa_nil)))
      (pss_cons (ps_set (i := 4) sc_law_drawn_marks.nd rfl (Or.inl rfl) (pe_op op_sub (pv 2) (pe_op op_fdiv (pe_op op_mul (pv 3) (pe_op op_sub (pv 3) pe_int)) pe_int)))
      (pss_cons (ps_set (i := 5) sc_law_drawn_marks.nd rfl (Or.inl rfl) (pe_callF C_law_next (hr.mono (by decide)) (pa_cons (pe_op op_add (pe_op op_mod (pe_op op_mul (pe_callF C_law_cell (hr.mono (by decide)) (pa_cons (pv 0) (pa_cons (pv 1) pa_nil))) pe_int) pe_int) pe_int) pa_nil)))
      (pss_cons (ps_set (i := 6) sc_law_drawn_marks.nd rfl (Or.inl rfl) (pe_lst pa_nil))
      (pss_cons (ps_for PassesOwn.never rfl (pi_range1 (by rfl) T.m_range (pa_cons (pv 3) pa_nil)) (pg_name (i := 7) sc_law_drawn_marks.nd rfl (Or.inl rfl))
      (pss_cons (ps_set (i := 5) sc_law_drawn_marks.nd rfl (Or.inl rfl) (pe_callF C_law_next (hr.mono (by decide)) (pa_cons (pv 5) pa_nil)))
      (pss_one (ps_expr (pe_bm PySem.F.plainAttrs_list PySem.F.slot_list_insert PySem.F.type_list_insert mt_insert (pv 6) (pa_cons (pe_op op_mod (pe_op op_fdiv (pv 5) pe_int) (pe_op op_add (pv 7) pe_int)) (pa_cons (pe_callTy (T := "int") call_int1 (by rfl) T.m_int (by decide +kernel) (pa_cons (pe_cmpR op_lt (pv 7) (pv 4) (nomark _)) pa_nil)) pa_nil)))))))
      (pss_one (ps_ret (pv 6)))))))), ?_⟩
  obtain ⟨r1, r2, r3⟩ := rest_spec h1
  have hs := stair_le h1 (b := 14) (by omega) (by omega)
  have hs1 := (stair_spec h1).1
  generalize hst : stair n = S at *
  generalize hro : restOf n = R at *
  refine ⟨_, rfl, n, rfl, h1, by omega, ?_⟩
  rw [hst]
  have e1 : (n : Int) - (S : Int) * ((S : Int) - 1) / 2 = (R : Int) := by
    have : (S : Int) * ((S : Int) - 1) = ((S * (S - 1) : Nat) : Int) := by
      rw [Int.natCast_mul]
      congr 1
      omega
    rw [this]
    omega
  refine ⟨_, rfl, _, rfl, _, rfl, _, _, rfl, rfl, _, _, rfl, rfl, .inl ⟨by omega, by omega⟩, _, _, rfl, rfl, ⟨by decide, by decide⟩, _, _, rfl, rfl, ?_⟩
  refine ⟨_, rfl, _, rfl, a, ns, k, rfl, hS, h0, fun z1 => ⟨_, _, rfl, rfl, .inr ⟨by decide, by decide⟩, _, _, rfl, rfl, (by show (0 : Int) < 2147483647; decide), _, _, rfl, rfl, _, rfl, fun z2 => ?_⟩⟩
  refine ⟨Nat.zero_le _, fun M nM => ?_⟩
  refine ⟨_, rfl, _, rfl, by omega, by omega, for_range (lo := 0) (n := (S : Int).toNat) (fun i σ H' => ∃ (st y : Option V) (ms : List Int), (∃ z, st = some (.int z)) ∧ σ = [some (.ref a), some (.int k), some (.int n), some (.int S), some (.int ((n : Int) - (S : Int) * ((S : Int) - 1) / 2)), st, some (.ref M), y] ∧
    Same H H' ∧ IL H' M ms ∧ Bits ms ∧ ms.length = i ∧ ms.sum = ((min i R : Nat) : Int)) ⟨_, none, [], ⟨z2, rfl⟩, rfl, same_new nM _, upd_same, (fun m hm => by cases hm), rfl, by rw [Nat.zero_min] <;> rfl⟩ ?_ ?_⟩
  · intro i σ H' hi h
    obtain ⟨_, y, ms, ⟨z, rfl⟩, rfl, sm, eM, hb, hlen, hsum⟩ := h
    refine ⟨_, rfl, z, rfl, fun z3 => ?_⟩
    refine ⟨_, rfl, Or.inl ⟨rfl, _, sq eM⟩, _, rfl, _, _, rfl, rfl, ⟨by decide, by decide⟩, _, rfl, _, _, rfl, rfl, _, _, rfl, rfl, (by show (0 : Int) < 0 + (i : Int) + 1; omega), _, rfl, _, rfl, _, _, rfl, rfl, Or.inr ⟨_, rfl, ?_⟩⟩
    have hmod := Int.emod_nonneg (z3 / 64) (show (0 : Int) + (i : Int) + 1 ≠ 0 by omega)
    have hmod2 := Int.emod_lt_of_pos (z3 / 64) (show (0 : Int) < 0 + (i : Int) + 1 by omega)
    generalize hJ : (z3 / 64) % ((0 : Int) + (i : Int) + 1) = J at hmod hmod2
    generalize hbit : (if decide ((0 : Int) + (i : Int) < (n : Int) - (S : Int) * ((S : Int) - 1) / 2) = true then (1 : Int) else 0) = B
    have hB : (i < R ∧ B = 1) ∨ (R ≤ i ∧ B = 0) := by
      by_cases c : i < R
      · rw [e1, if_pos (decide_eq_true (by omega))] at hbit
        exact .inl ⟨c, hbit.symm⟩
      · rw [e1, if_neg (fun h => by have := of_decide_eq_true h; omega)] at hbit
        exact .inr ⟨by omega, hbit.symm⟩
    refine ⟨M, ms.map V.int, J, .int B, rfl, by rw [← hJ, ← hbit] <;> rfl, eM, by rw [nlen]; exact smallL (by omega), hmod, by omega, ?_⟩
    obtain ⟨f1, f2, f3⟩ := ins_facts (l := ms) (j := J.toNat) (x := B)
    refine ⟨_, _, ms.take J.toNat ++ [B] ++ ms.drop J.toNat, ⟨z3, rfl⟩, rfl, same_mut sm nM _, ?_, fun m hm => ?_, by omega, ?_⟩
    · show upd _ _ _ _ = _
      rw [upd_same, List.map_append, List.map_append, List.map_take, List.map_drop] <;> rfl
    · rcases (f1 m).mp hm with e | e
      · omega
      · exact hb m e
    · rw [f2, hsum]
      omega
  · intro σ H' h
    obtain ⟨_, y, ms, ⟨z, rfl⟩, rfl, sm, eM, hb, hlen, hsum⟩ := h
    refine ⟨_, rfl, q ms hb (by omega) (by rw [hsum]; omega) H' M sm nM eM⟩

end

section
variable {P : Program} {w : World} {K : PySem.W.Frag} {mg : Str → Option Value} {base : Heap}
theorem sc_law_elder : FnScope ["piles", "number", "many", "some", "at", "rest", "pile", "k"] ["piles", "number"] (defScope s_law_elder) := ⟨rfl, rfl, rfl, by decide +kernel, rfl, by decide +kernel, by decide +kernel⟩
def sp_law_elder (K : PySem.W.Frag) : Sp := fun vs H Q _ => ∃ (a : Addr) (ns : List Int) (z n : Int), vs = [.ref a, .int z] ∧ IL H a ns ∧ IsSet n ns ∧ n ≤ 100 ∧
  ∀ H' p ms, Same H H' → IL H' p ms → IsSet n ms → Q (.ref p) H'
theorem ok_law_elder (T : Txt K mg) : Cal P w K mg base CX0 1 "_law_elder" ["piles", "number"] (sp_law_elder K) := by
  refine cal_mk T.d_law_elder sc_law_elder ?_ (fun _ _ _ _ _ _ us hl => match us, hl with | [_, _], _ => rfl) (fun f cdv A outer s H vs Q E hr h => ?_)
  · intro vs H Q E h
    obtain ⟨a, ns, z, n, rfl, _⟩ := h
    rfl
  obtain ⟨a, ns, z, n, rfl, hS, hset, hn, q⟩ := h
  have hlen := hset.len
  refine ⟨_, (pss_cons (ps_set (i := 2) sc_law_elder.nd rfl (Or.inr rfl) (pe_callB call_len_seq (by rfl) T.m_len PySem.boot_len (pa_cons (pv 0) pa_nil)))
      (pss_cons (ps_setLc (i := 3) (own := [("at", 4)]) (g := gName 4) rfl sc_law_elder.nd rfl rfl (sw_true rfl rfl rfl (by decide +kernel)) (pi_range1 (by rfl) T.m_range (pa_cons (pv 2) pa_nil)) (blkOk_by (own := [("at", 4)]) (N := ["piles", "number", "many", "some", "at", "rest", "pile", "k"]) (sc := defScope s_law_elder) (by decide +kernel)) (fun _ _ _ _ _ => pg_name (i := 4) sc_law_elder.nd rfl (Or.inl rfl)) (fun _ _ _ _ _ => (pts_one (pt_cmpR op_ge (pe_ix (ix_listK K) (pv 0) (pv 4) (fun _ _ => rfl)) (pe_op op_sub (pv 2) pe_int) (nomark _)))) (fun _ _ _ _ _ => (pv 4)))
      (pss_cons (ps_if (pt_cmpR op_eq (pe_callB call_len_seq (by rfl) T.m_len PySem.boot_len (pa_cons (pv 3) pa_nil)) pe_int (nomark _))
      (pss_one (ps_ret (pv 0))) pss_nil)
      (pss_cons (ps_set (i := 4) sc_law_elder.nd rfl (Or.inl rfl) (pe_ix ix_list (pv 3) (pe_op op_mod (pv 1) (pe_callB call_len_seq (by rfl) T.m_len PySem.boot_len (pa_cons (pv 3) pa_nil))) (fun _ _ => rfl)))
      (pss_cons (ps_setLc (i := 5) (own := [("pile", 6)]) (g := gName 6) rfl sc_law_elder.nd rfl rfl (sw_true rfl rfl rfl (by decide +kernel)) (pi_list (pe_op op_cat (pe_slice sl_list (pv 0) po_none (po_some (pv 4))) (pe_slice sl_list (pv 0) (po_some (pe_op op_add (pv 4) pe_int)) po_none))) (blkOk_by (own := [("pile", 6)]) (N := ["piles", "number", "many", "some", "at", "rest", "pile", "k"]) (sc := defScope s_law_elder) (by decide +kernel)) (fun _ _ _ _ _ => pg_name (i := 6) sc_law_elder.nd rfl (Or.inl rfl)) (fun _ _ _ _ _ => pts_nil) (fun _ _ _ _ _ => (pe_op op_add (pv 6) pe_int)))
      (pss_one (ps_ret (pe_op op_cat (pv 5) (pe_lc (own := [("k", 7)]) (g := gName 7) rfl sc_law_elder.nd (pi_range1 (by rfl) T.m_range (pa_cons (pe_op op_sub (pe_ix ix_list (pv 0) (pv 4) (fun _ _ => rfl)) (pe_callB call_len_seq (by rfl) T.m_len PySem.boot_len (pa_cons (pv 5) pa_nil))) pa_nil)) (blkOk_by (own := [("k", 7)]) (N := ["piles", "number", "many", "some", "at", "rest", "pile", "k"]) (sc := defScope s_law_elder) (by decide +kernel)) (fun _ _ _ _ _ => pg_name (i := 7) sc_law_elder.nd rfl (Or.inl rfl)) (fun _ _ _ _ _ => pts_nil) (fun _ _ _ _ _ => pe_int)))))))))), ?_⟩
  refine ⟨_, rfl, a, _, rfl, .inl (sq hS), ?_⟩
  rw [nlen]
  -- some
  refine ⟨_, rfl, _, rfl, by omega, by omega, fun D nD => lc_range (lo := 0) (n := (ns.length : Int).toNat) (fun i H' => Same H H' ∧ ∃ is : List Int, IL H' D is ∧ is.length ≤ i ∧ ∀ x ∈ is, ∃ (j : Nat) (p : Int), x = j ∧ ns[j]? = some p ∧ p ≥ (ns.length : Int) - 1)
    ⟨same_new nD _, [], upd_same, Nat.le_refl _, fun x hx => by cases hx⟩ ?_ ?_⟩
  · intro i H' hi h
    obtain ⟨sm, is, eD, hi2, hall⟩ := h
    have hi : i < ns.length := by omega
    refine ⟨rfl, _, rfl, _, rfl, a, _, _, .int ns[i], rfl, rfl, sq (sm _ _ hS), at_of (j := i) (by omega) (int_get (List.getElem?_eq_getElem hi)), _, rfl, _, _, rfl, rfl, _, _, rfl, rfl, _, rfl, ite2 (fun c => ?_) (fun c => ?_)⟩
    · have c' : (ns.length : Int) - 1 ≤ ns[i] := of_decide_eq_true c
      refine ⟨_, rfl, _, eD, by rw [nlen]; exact smallL (by omega), same_mut sm nD _, is ++ [(i : Int)], ?_, by rw [List.length_append, List.length_singleton]; omega, fun x hx => ?_⟩
      · show upd _ _ _ _ = _
        rw [upd_same, List.map_append, Int.zero_add] <;> rfl
      · rcases List.mem_append.mp hx with hx | hx
        · exact hall x hx
        · exact ⟨i, ns[i], List.mem_singleton.mp hx, List.getElem?_eq_getElem hi, c'⟩
    · exact ⟨sm, is, eD, by omega, hall⟩
  · intro H1 h
    obtain ⟨sm, is, eD, hi2, hall⟩ := h
    -- if len(some) == 0
    refine ⟨_, rfl, D, _, rfl, .inl (sq eD), rfl, _, rfl, ?_⟩
    rw [nlen]
    refine ite2 (fun c => ?_) (fun c => ?_)
    · exact ⟨_, rfl, q H1 a ns sm (sm _ _ hS) hset⟩
    · have hpos : 0 < is.length := by
        rcases Nat.eq_zero_or_pos is.length with e | e
        · exact absurd (decide_eq_true (by rw [e] <;> rfl)) c
        · exact e
      have hm1 := Int.emod_nonneg z (show (is.length : Int) ≠ 0 by omega)
      have hm2 := Int.emod_lt_of_pos z (show (0 : Int) < (is.length : Int) by omega)
      obtain ⟨J, hJ⟩ : ∃ J : Nat, z % (is.length : Int) = J := ⟨(z % (is.length : Int)).toNat, by omega⟩
      have hJl : J < is.length := by omega
      obtain ⟨j, p, ej, hp, hb⟩ := hall is[J] (List.getElem_mem hJl)
      have hjl : j < ns.length := (List.getElem?_eq_some_iff.mp hp).1
      refine ⟨_, rfl, _, rfl, _, rfl, D, _, rfl, .inl (sq eD), _, _, rfl, rfl, (by rw [nlen]; show (0 : Int) < _; omega), D, _, _, .int is[J], rfl, rfl, sq eD, at_of (j := J) (by rw [nlen]; exact hJ) (int_get (List.getElem?_eq_getElem hJl)), ?_⟩
      rw [ej]
      -- rest
      have hA1 : SqL K H1 a (ns.map V.int) := sq (sm _ _ hS)
      refine ⟨_, rfl, _, rfl, _, rfl, a, _, rfl, hA1, fun p1 n1 => ?_⟩
      rw [cut_to _ (by rw [nlen]; omega)]
      have sm1 := same_new n1 (.lst ((ns.map V.int).take j))
      refine ⟨_, rfl, _, rfl, _, _, rfl, rfl, (j : Int) + 1, rfl, a, _, rfl, sm1.seq hA1, fun p2 n2 => ?_⟩
      rw [show (j : Int) + 1 = ((j + 1 : Nat) : Int) by omega, cut_from _ (by rw [nlen]; omega)]
      have sm2 := same_new n2 (.lst ((ns.map V.int).drop (j + 1)))
      obtain ⟨s1, s2⟩ := take_drop_sum hp
      refine ⟨p1, p2, _, _, rfl, rfl, sm2 _ _ upd_same, upd_same, by rw [List.length_take, List.length_drop, nlen]; exact small (by omega), fun p3 n3 => ?_⟩
      have sm3 := same_new n3 (.lst ((ns.map V.int).take j ++ (ns.map V.int).drop (j + 1)))
      have e3 : IL (upd (upd (upd H1 p1 (.lst ((ns.map V.int).take j))) p2 (.lst ((ns.map V.int).drop (j + 1)))) p3 (.lst ((ns.map V.int).take j ++ (ns.map V.int).drop (j + 1)))) p3 (ns.take j ++ ns.drop (j + 1)) := by
        show upd _ _ _ _ = _
        rw [upd_same, List.map_append, List.map_take, List.map_drop]
      have smA := (sm1.trans sm2).trans sm3
      generalize (upd (upd (upd H1 p1 (.lst ((ns.map V.int).take j))) p2 (.lst ((ns.map V.int).drop (j + 1)))) p3 (.lst ((ns.map V.int).take j ++ (ns.map V.int).drop (j + 1)))) = H2 at *
      generalize hrs : ns.take j ++ ns.drop (j + 1) = rs at *
      refine ⟨p3, rfl, ⟨_, sq e3⟩, fun G nG => lc_list (K := K) (a := p3) (xs := rs.map V.int) (fun i H' => Same H2 H' ∧ IL H' G ((rs.take i).map (· + 1))) ⟨same_new nG _, upd_same⟩ (fun i H' _ h => sq (h.1 _ _ e3)) ?_ ?_⟩
      · intro i x H' hx h
        obtain ⟨y, hy, rfl⟩ := get_int hx
        obtain ⟨sm4, eG⟩ := h
        have hil : i < rs.length := (List.getElem?_eq_some_iff.mp hy).1
        refine ⟨rfl, _, rfl, _, _, rfl, rfl, _, eG, ?_, same_mut sm4 nG _, ?_⟩
        · rw [nlen, List.length_map, List.length_take]
          exact smallL (by omega)
        · show upd _ _ _ _ = _
          rw [upd_same, take_snoc hy, List.map_append, List.map_append] <;> rfl
      · intro H3 h
        obtain ⟨sm4, eG⟩ := h
        rw [nlen, List.take_length] at eG
        have smB := sm.trans (smA.trans sm4)
        have hA3 : SqL K H3 a (ns.map V.int) := sq (smB _ _ hS)
        have hpn : 1 ≤ p := hset.1.pos p (List.mem_of_getElem? hp)
        have hpn2 := hset.le (List.mem_of_getElem? hp)
        have hcnt : ((rs.map (· + 1)).map V.int).length = rs.length := by rw [nlen, List.length_map]
        -- rest + [1 for k in ..]
        refine ⟨_, rfl, _, rfl, _, rfl, a, _, _, .int p, rfl, rfl, hA3, at_of (j := j) rfl (int_get hp), _, rfl, G, _, rfl, .inl (sq eG), _, _, rfl, rfl, _, rfl, ?_⟩
        rw [hcnt]
        refine ⟨by omega, by omega, fun N nN => lc_range (lo := 0) (n := (p - (rs.length : Int)).toNat) (fun i H' => Same H3 H' ∧ IL H' N (List.replicate i 1)) ⟨same_new nN _, upd_same⟩ ?_ ?_⟩
        · intro i H' hi h
          obtain ⟨sm5, eN⟩ := h
          refine ⟨rfl, _, eN, by rw [nlen, List.length_replicate]; exact smallL (by omega), same_mut sm5 nN _, ?_⟩
          show upd _ _ _ _ = _
          rw [upd_same, List.replicate_succ', List.map_append] <;> rfl
        · intro H4 h
          obtain ⟨sm5, eN⟩ := h
          refine ⟨G, N, _, _, rfl, rfl, sm5 _ _ eG, eN, by rw [nlen, nlen, List.length_map, List.length_replicate]; exact small (by omega), fun r nr => ?_⟩
          refine q _ r (elderAt ns j p) ((smB.trans sm5).trans (same_new nr _)) ?_ (elder_set hset hp hb)
          show upd _ _ _ _ = _
          rw [upd_same, ← List.map_append]
          unfold elderAt
          rw [hrs, show (rs.length : Int) = (ns.length : Int) - 1 by omega]

end

section
variable {P : Program} {w : World} {K : PySem.W.Frag} {mg : Str → Option Value} {base : Heap}
theorem sc_law_drawn_piles : FnScope ["script", "k", "coins", "cap", "step", "piles", "left"] ["script", "k", "coins", "cap"] (defScope s_law_drawn_piles) := ⟨rfl, rfl, rfl, by decide +kernel, rfl, by decide +kernel, by decide +kernel⟩
def sp_law_drawn_piles (K : PySem.W.Frag) : Sp := fun vs H Q _ => ∃ (a : Addr) (ns : List Int) (k n c : Int), vs = [.ref a, .int k, .int n, .int c] ∧ SL K H a ns ∧ 0 ≤ k ∧ 1 ≤ n ∧ n ≤ 100 ∧ 1 ≤ c ∧
  ∀ ms : List Int, IsSet n ms → NL Q H ms
theorem ok_law_drawn_piles (T : Txt K mg) : Cal P w K mg base CX0 2 "_law_drawn_piles" ["script", "k", "coins", "cap"] (sp_law_drawn_piles K) := by
  have C_law_cell := ok_law_cell (P := P) (w := w) (base := base) T
  have C_law_fallen := ok_law_fallen (P := P) (w := w) (base := base) T
  have C_law_next := ok_law_next (P := P) (w := w) (base := base) T
  refine cal_mk T.d_law_drawn_piles sc_law_drawn_piles ?_ (fun _ _ _ _ _ _ us hl => match us, hl with | [_, _, _, _], _ => rfl) (fun f cdv A outer s H vs Q E hr h => ?_)
  · intro vs H Q E h
    obtain ⟨a, ns, k, n, c, rfl, _⟩ := h
    rfl
  obtain ⟨a, ns, k, n, c, rfl, hS, h0, h1, h2, h3, q⟩ := h
  refine ⟨_, (pss_cons (ps_set (i := 4) sc_law_drawn_piles.nd rfl (Or.inl rfl) (pe_callF C_law_next (hr.mono (by decide)) (pa_cons (pe_op op_add (pe_op op_mod (pe_op op_mul (pe_callF C_law_cell (hr.mono (by decide)) (pa_cons (pv 0) (pa_cons (pv 1) pa_nil))) pe_int) pe_int) pe_int) pa_nil)))
      (pss_cons (ps_set (i := 5) sc_law_drawn_piles.nd rfl (Or.inl rfl) (pe_lst pa_nil))
      (pss_cons (ps_set (i := 6) sc_law_drawn_piles.nd rfl (Or.inl rfl) (pv 2))
      (pss_cons (ps_while PassesOwn.never (pt_cmpR op_gt (pv 6) pe_int (nomark _))
      (pss_cons (ps_set (i := 4) sc_law_drawn_piles.nd rfl (Or.inl rfl) (pe_callF C_law_next (hr.mono (by decide)) (pa_cons (pv 4) pa_nil)))
      (pss_cons (ps_expr (pe_bm PySem.F.plainAttrs_list PySem.F.slot_list_append PySem.F.type_list_append mt_append (pv 5) (pa_cons (pe_op op_add pe_int (pe_op op_mod (pe_op op_fdiv (pv 4) pe_int) (pe_callB (call_min2 rfl) (by rfl) T.m_min (by decide +kernel) (pa_cons (pv 6) (pa_cons (pv 3) pa_nil))))) pa_nil)))
      (pss_one (ps_set (i := 6) sc_law_drawn_piles.nd rfl (Or.inl rfl) (pe_op op_sub (pv 6) (pe_ix ix_list (pv 5) (pe_un un_neg pe_int) (fun _ _ => rfl))))))))
      (pss_one (ps_ret (pe_callF C_law_fallen (hr.mono (by decide)) (pa_cons (pv 5) pa_nil)))))))), ?_⟩
  refine ⟨_, rfl, _, rfl, a, ns, k, rfl, hS, h0, fun z1 => ⟨_, _, rfl, rfl, .inr ⟨by decide, by decide⟩, _, _, rfl, rfl, (by show (0 : Int) < 2147483647; decide), _, _, rfl, rfl, _, rfl, fun z2 => ?_⟩⟩
  refine ⟨Nat.zero_le _, fun M nM => ?_⟩
  refine ⟨_, rfl, ?_⟩
  refine ⟨fun m σ H' => ∃ (z l : Int) (ms : List Int), σ = [some (.ref a), some (.int k), some (.int n), some (.int c), some (.int z), some (.ref M), some (.int l)] ∧ Same H H' ∧ IL H' M ms ∧ (∀ x ∈ ms, 1 ≤ x) ∧ 0 ≤ l ∧ ms.sum + l = n ∧ m = l.toNat,
    ⟨_, z2, n, [], rfl, same_new nM _, upd_same, (fun x hx => by cases hx), by omega, by show (0 : Int) + n = n; omega, rfl⟩, fun m σ H' hW => ?_⟩
  obtain ⟨z, l, ms, rfl, sm, eM, hp, hl, hsum, rfl⟩ := hW
  have hlen := len_le_sum hp
  refine ⟨_, rfl, _, _, rfl, rfl, _, rfl, ite2 (fun t => ?_) (fun t => ?_)⟩
  · have t' : 0 < l := of_decide_eq_true t
    refine ⟨fun σ' H2 => ∃ (z l' : Int) (ms : List Int), σ' = [some (.ref a), some (.int k), some (.int n), some (.int c), some (.int z), some (.ref M), some (.int l')] ∧ Same H H2 ∧ IL H2 M ms ∧ (∀ x ∈ ms, 1 ≤ x) ∧ 0 ≤ l' ∧ ms.sum + l' = n ∧ l' < l, fun σ' H2 h => ?_, ?_⟩
    · obtain ⟨z, l', ms, e, a1, a2, a3, a4, a5, a6⟩ := h
      exact ⟨l'.toNat, by omega, z, l', ms, e, a1, a2, a3, a4, a5, rfl⟩
    · refine ⟨_, rfl, z, rfl, fun z3 => ?_⟩
      have hmin : (1 : Int) ≤ (if c < l then c else l) ∧ (if c < l then c else l) ≤ l := by
        by_cases h : c < l
        · rw [if_pos h]
          omega
        · rw [if_neg h]
          omega
      generalize hg : (if c < l then c else l) = g at hmin
      have hm1 := Int.emod_nonneg (z3 / 64) (show g ≠ 0 by omega)
      have hm2 := Int.emod_lt_of_pos (z3 / 64) (show 0 < g by omega)
      refine ⟨_, rfl, Or.inl ⟨rfl, _, sq eM⟩, _, rfl, _, _, rfl, rfl, ⟨by decide, by decide⟩, _, rfl, _, rfl, l, c, rfl, ?_⟩
      rw [hg]
      refine ⟨_, _, rfl, rfl, (by show (0 : Int) < g; omega), _, _, rfl, rfl, M, ms.map V.int, _, rfl, rfl, eM, by rw [nlen]; exact smallL (by omega), ?_⟩
      refine ⟨_, rfl, _, rfl, _, rfl, M, _, _, .int (1 + (z3 / 64) % g), rfl, rfl, sq upd_same, atI_last _ _, _, _, rfl, rfl, ?_⟩
      refine ⟨z3, l - (1 + (z3 / 64) % g), ms ++ [1 + (z3 / 64) % g], rfl, same_mut sm nM _, ?_, fun y hy => ?_, by omega, ?_, by omega⟩
      · show upd _ _ _ _ = _
        rw [upd_same, List.map_append] <;> rfl
      · rcases List.mem_append.mp hy with hy | hy
        · exact hp y hy
        · rw [List.mem_singleton.mp hy]
          omega
      · rw [List.sum_append, List.sum_cons, List.sum_nil]
        omega
  · have t' : ¬ 0 < l := fun h => t (decide_eq_true h)
    have hs : ms.sum = n := by omega
    refine ⟨_, rfl, M, ms, rfl, eM, fun H2 p s2 np ep => q (fall ms) ⟨⟨fun x hx => hp x ((fall_perm ms).mem_iff.mp hx), fall_falls ms, fun e => ?_⟩, by rw [fall_sum]; exact hs⟩ H2 p (sm.trans s2) (sm.free np) ep⟩
    have := fall_sum ms
    rw [e, hs] at this
    have : (0 : Int) = n := this
    omega

end

section
variable {P : Program} {w : World} {K : PySem.W.Frag} {mg : Str → Option Value} {base : Heap}
theorem sc_law_setting : FnScope ["script", "k", "coins", "way", "cap", "j", "piles", "step", "turn"] ["script", "k", "coins"] (defScope s_law_setting) := ⟨rfl, rfl, rfl, by decide +kernel, rfl, by decide +kernel, by decide +kernel⟩
def sp_law_setting (K : PySem.W.Frag) : Sp := fun vs H Q _ => ∃ (a : Addr) (ns : List Int) (k : Int) (n : Nat), vs = [.ref a, .int k, .int n] ∧ SL K H a ns ∧ 0 ≤ k ∧ 1 ≤ n ∧ n ≤ 100 ∧
  ∀ ms : List Int, IsSet n ms → ∀ H' p, Same H H' → IL H' p ms → Q (.ref p) H'
theorem ones_set {n : Nat} (h : 1 ≤ n) : IsSet n (List.replicate n 1) := by
  refine ⟨⟨fun x hx => by rw [List.eq_of_mem_replicate hx]; exact Int.le_refl 1, List.pairwise_replicate.mpr (.inr (Int.le_refl 1)), fun e => ?_⟩, sum_replicate n⟩
  have := congrArg List.length e
  rw [List.length_replicate, List.length_nil] at this
  omega
theorem one_set {n : Nat} (h : 1 ≤ n) : IsSet n [(n : Int)] :=
  ⟨⟨fun x hx => by rw [List.mem_singleton.mp hx]; omega, List.pairwise_singleton _ _, List.cons_ne_nil _ _⟩, by rw [List.sum_cons, List.sum_nil]; omega⟩
theorem ok_law_setting (T : Txt K mg) : Cal P w K mg base CX0 3 "_law_setting" ["script", "k", "coins"] (sp_law_setting K) := by
  have C_law_by_marks := ok_law_by_marks (P := P) (w := w) (base := base) T
  have C_law_cell := ok_law_cell (P := P) (w := w) (base := base) T
  have C_law_drawn_marks := ok_law_drawn_marks (P := P) (w := w) (base := base) T
  have C_law_drawn_piles := ok_law_drawn_piles (P := P) (w := w) (base := base) T
  have C_law_elder := ok_law_elder (P := P) (w := w) (base := base) T
  have C_law_next := ok_law_next (P := P) (w := w) (base := base) T
  refine cal_mk T.d_law_setting sc_law_setting ?_ (fun _ _ _ _ _ _ us hl => match us, hl with | [_, _, _], _ => rfl) (fun f cdv A outer s H vs Q E hr h => ?_)
  · intro vs H Q E h
    obtain ⟨a, ns, k, n, rfl, _⟩ := h
    rfl
  obtain ⟨a, ns, k, n, rfl, hS, h0, h1, h2, q⟩ := h
  have hs := stair_le h1 (b := 14) (by omega) (by omega)
  refine ⟨_, (pss_cons (ps_set (i := 3) sc_law_setting.nd rfl (Or.inl rfl) (pe_op op_mod (pe_callF C_law_cell (hr.mono (by decide)) (pa_cons (pv 0) (pa_cons (pv 1) pa_nil))) pe_int))
      (pss_cons (ps_set (i := 4) sc_law_setting.nd rfl (Or.inl rfl) (pe_op op_add pe_int (pe_op op_mod (pe_callF C_law_cell (hr.mono (by decide)) (pa_cons (pv 0) (pa_cons (pe_op op_add (pv 1) pe_int) pa_nil))) (pv 2))))
      (pss_cons (ps_if (PW.pt (pw_or (pt_cmpR op_eq (pv 3) pe_int (nomark _)) (pw_or1 (pt_cmpR op_eq (pv 3) pe_int (nomark _)))))
      (pss_one (ps_ret (pe_callF C_law_drawn_piles (hr.mono (by decide)) (pa_cons (pv 0) (pa_cons (pe_op op_add (pv 1) pe_int) (pa_cons (pv 2) (pa_cons (pv 4) pa_nil))))))) pss_nil)
      (pss_cons (ps_if (pt_cmpR op_eq (pv 3) pe_int (nomark _))
      (pss_one (ps_ret (pe_ix ix_list (pe_lst (pa_cons (pe_lst (pa_cons (pv 2) pa_nil)) (pa_cons (pe_lc (own := [("j", 5)]) (g := gName 5) rfl sc_law_setting.nd (pi_range1 (by rfl) T.m_range (pa_cons (pv 2) pa_nil)) (blkOk_by (own := [("j", 5)]) (N := ["script", "k", "coins", "way", "cap", "j", "piles", "step", "turn"]) (sc := defScope s_law_setting) (by decide +kernel)) (fun _ _ _ _ _ => pg_name (i := 5) sc_law_setting.nd rfl (Or.inl rfl)) (fun _ _ _ _ _ => pts_nil) (fun _ _ _ _ _ => pe_int)) pa_nil))) (pe_op op_mod (pe_callF C_law_cell (hr.mono (by decide)) (pa_cons (pv 0) (pa_cons (pe_op op_add (pv 1) pe_int) pa_nil))) pe_int) (fun _ _ => rfl)))) pss_nil)
      (pss_cons (ps_set (i := 6) sc_law_setting.nd rfl (Or.inl rfl) (pe_callF C_law_by_marks (hr.mono (by decide)) (pa_cons (pe_callF C_law_drawn_marks (hr.mono (by decide)) (pa_cons (pv 0) (pa_cons (pe_op op_add (pv 1) pe_int) (pa_cons (pv 2) pa_nil)))) pa_nil)))
      (pss_cons (ps_set (i := 7) sc_law_setting.nd rfl (Or.inl rfl) (pe_callF C_law_next (hr.mono (by decide)) (pa_cons (pe_op op_add (pe_op op_mod (pe_op op_mul (pe_callF C_law_cell (hr.mono (by decide)) (pa_cons (pv 0) (pa_cons (pe_op op_add (pv 1) pe_int) pa_nil))) pe_int) pe_int) pe_int) pa_nil)))
      (pss_cons (ps_if (pt_cmpR op_gt (pv 3) pe_int (nomark _))
      (pss_one (ps_for PassesOwn.never rfl (pi_range1 (by rfl) T.m_range (pa_cons (pe_op op_mod (pe_callF C_law_cell (hr.mono (by decide)) (pa_cons (pv 0) (pa_cons (pe_op op_add (pv 1) pe_int) pa_nil))) pe_int) pa_nil)) (pg_name (i := 8) sc_law_setting.nd rfl (Or.inl rfl))
      (pss_cons (ps_set (i := 7) sc_law_setting.nd rfl (Or.inl rfl) (pe_callF C_law_next (hr.mono (by decide)) (pa_cons (pv 7) pa_nil)))
      (pss_one (ps_set (i := 6) sc_law_setting.nd rfl (Or.inl rfl) (pe_callF C_law_elder (hr.mono (by decide)) (pa_cons (pv 6) (pa_cons (pe_op op_fdiv (pv 7) pe_int) pa_nil)))))))) pss_nil)
      (pss_one (ps_ret (pv 6)))))))))), ?_⟩
  -- way, cap
  refine ⟨_, rfl, _, rfl, a, ns, k, rfl, hS, h0, fun z1 => ⟨_, _, rfl, rfl, (by show (0 : Int) < 6; decide), ?_⟩⟩
  refine ⟨_, rfl, _, rfl, _, _, rfl, rfl, a, ns, k + 1, rfl, hS, by omega, fun z2 => ⟨_, rfl, _, _, rfl, rfl, (by show (0 : Int) < (n : Int); omega), _, _, rfl, rfl, ?_⟩⟩
  have hc1 := Int.emod_nonneg z2 (show (n : Int) ≠ 0 by omega)
  -- way == 0 or way == 1
  refine ⟨_, rfl, rfl, _, rfl, ite2 (fun _ => ?w0) (fun _ => ⟨_, rfl, rfl, _, rfl, ite2 (fun _ => ?w1) (fun _ => ?_)⟩)⟩
  case' w0 => skip
  case' w1 => skip
  iterate 2
    · exact ⟨_, rfl, _, rfl, _, _, rfl, rfl, _, rfl, _, rfl, a, ns, k + 2, n, 1 + z2 % (n : Int), rfl, hS, by omega, by omega, by omega, by omega, fun ms hm H' p sm _ ep => q ms hm H' p sm ep⟩
  -- way == 2
  refine ⟨_, rfl, rfl, _, rfl, ite2 (fun _ => ?_) (fun _ => ?_)⟩
  · refine ⟨_, rfl, (by show 1 ≤ sizeLine; decide), fun p1 n1 => ?_⟩
    have sm1 := same_new n1 (.lst [.int n])
    refine ⟨_, rfl, n, rfl, by omega, by omega, fun D nD => lc_range (lo := 0) (n := (n : Int).toNat) (fun i H' => Same (upd H p1 (.lst [.int n])) H' ∧ IL H' D (List.replicate i 1)) ⟨same_new nD _, upd_same⟩ ?_ ?_⟩
    · intro i H' hi h
      obtain ⟨sm, eD⟩ := h
      refine ⟨rfl, _, eD, by rw [nlen, List.length_replicate]; exact smallL (by omega), same_mut sm nD _, ?_⟩
      show upd _ _ _ _ = _
      rw [upd_same, List.replicate_succ', List.map_append] <;> rfl
    · intro H1 h
      obtain ⟨sm, eD⟩ := h
      refine ⟨(by show 2 ≤ sizeLine; decide), fun p2 n2 => ?_⟩
      have smA := (sm1.trans sm).trans (same_new n2 (.lst [.ref p1, .ref D]))
      have e1 : IL (upd H1 p2 (.lst [.ref p1, .ref D])) p1 [(n : Int)] := same_new n2 _ _ _ (sm _ _ upd_same)
      have e2 : IL (upd H1 p2 (.lst [.ref p1, .ref D])) D (List.replicate (n : Int).toNat 1) := same_new n2 _ _ _ eD
      refine ⟨_, rfl, _, rfl, _, _, rfl, rfl, a, ns, k + 1, rfl, smA.seq hS, by omega, fun z3 => ⟨_, _, rfl, rfl, (by show (0 : Int) < 2; decide), ?_⟩⟩
      have hz := Int.emod_two_eq z3
      rcases hz with hz | hz
      · exact ⟨p2, _, _, .ref p1, rfl, rfl, sq upd_same, at_of (j := 0) hz rfl, q _ (one_set h1) _ _ smA e1⟩
      · exact ⟨p2, _, _, .ref D, rfl, rfl, sq upd_same, at_of (j := 1) hz rfl, q _ (by rw [Int.toNat_natCast]; exact ones_set h1) _ _ smA e2⟩
  · -- round ones and elders
    refine ⟨_, rfl, _, rfl, _, _, rfl, rfl, _, rfl, a, ns, k + 2, n, rfl, hS, by omega, h1, h2, fun ms hb hl hsum H1 p1 sm1 n1 e1 => ?_⟩
    refine ⟨p1, ms, rfl, e1, by omega, fun H2 p2 sm2 n2 e2 => ?_⟩
    have hset := ofMarks_set h1 hb hl hsum
    have smA := sm1.trans sm2
    refine ⟨_, rfl, _, rfl, _, _, rfl, rfl, a, ns, k + 3, rfl, smA.seq hS, by omega, fun z3 => ⟨_, _, rfl, rfl, .inr ⟨by decide, by decide⟩, _, _, rfl, rfl, (by show (0 : Int) < 2147483647; decide), _, _, rfl, rfl, _, rfl, fun z4 => ?_⟩⟩
    refine ⟨_, rfl, _, _, rfl, rfl, _, rfl, ite2 (fun _ => ?_) (fun _ => ?_)⟩
    · refine ⟨_, rfl, _, rfl, _, _, rfl, rfl, a, ns, k + 1, rfl, smA.seq hS, by omega, fun z5 => ⟨_, _, rfl, rfl, (by show (0 : Int) < 120; decide), ?_⟩⟩
      have hm1 := Int.emod_nonneg z5 (show (120 : Int) ≠ 0 by decide)
      have hm2 := Int.emod_lt_of_pos z5 (show (0 : Int) < 120 by decide)
      refine ⟨_, rfl, by omega, by omega, for_range (lo := 0) (n := (z5 % 120).toNat) (fun i σ H' => ∃ (p : Addr) (z : Int) (y : Option V) (ms : List Int), σ = [some (.ref a), some (.int k), some (.int n), some (.int (z1 % 6)), some (.int (1 + z2 % (n : Int))), none, some (.ref p), some (.int z), y] ∧ Same H H' ∧ IL H' p ms ∧ IsSet n ms)
        ⟨p2, z4, none, ofMarks ms, rfl, smA, e2, hset⟩ ?_ ?_⟩
      · intro i σ H' hi h
        obtain ⟨p, z, y, ms', rfl, sm, ep, hset⟩ := h
        refine ⟨_, rfl, z, rfl, fun z6 => ?_⟩
        exact ⟨_, rfl, _, rfl, _, _, rfl, rfl, ⟨by decide, by decide⟩, p, ms', z6 / 64, n, rfl, ep, hset, by omega, fun H3 p3 ms3 sm3 ep3 hset3 => ⟨p3, z6, _, ms3, rfl, sm.trans sm3, ep3, hset3⟩⟩
      · intro σ H' h
        obtain ⟨p, z, y, ms', rfl, sm, ep, hset⟩ := h
        exact ⟨_, rfl, q ms' hset H' p sm ep⟩
    · exact ⟨_, rfl, q _ hset H2 p2 smA e2⟩

end

section
variable {P : Program} {w : World} {K : PySem.W.Frag} {mg : Str → Option Value} {base : Heap}
theorem sc_law_ints : FnScope ["found", "due", "k"] ["found", "due"] (defScope s_law_ints) := ⟨rfl, rfl, rfl, by decide +kernel, rfl, by decide +kernel, by decide +kernel⟩
def sp_law_ints : Sp := fun vs H Q _ => ∃ (f d : Addr) (xs ns : List Int), vs = [.ref f, .ref d] ∧ IL H f xs ∧ IL H d ns ∧ ns.length ≤ 100000 ∧ Q (.bl (decide (xs = ns))) H
theorem ok_law_ints (T : Txt K mg) : Cal P w K mg base CX0 1 "_law_ints" ["found", "due"] sp_law_ints := by
  refine cal_mk T.d_law_ints sc_law_ints ?_ (fun _ _ _ _ _ _ us hl => match us, hl with | [_, _], _ => rfl) (fun f cdv A outer s H vs Q E hr h => ?_)
  · intro vs H Q E h
    obtain ⟨f, d, xs, ns, rfl, _⟩ := h
    rfl
  obtain ⟨f, d, xs, ns, rfl, hF, hD, hl, q⟩ := h
  refine ⟨_, (pss_cons (ps_if (PW.pt (pw_or (pt_not (pt_val (pe_callB call_isi (by rfl) T.m_isinstance (by decide +kernel) (pa_cons (pv 0) (pa_cons (pe_bltn (v := .ty "list") (by rfl) T.m_list (by decide +kernel) rfl) pa_nil))))) (pw_or1 (pt_cmpR op_ne (pe_callB call_len_seq (by rfl) T.m_len PySem.boot_len (pa_cons (pv 0) pa_nil)) (pe_callB call_len_seq (by rfl) T.m_len PySem.boot_len (pa_cons (pv 1) pa_nil)) (nomark _)))))
      (pss_one (ps_ret pe_bl)) pss_nil)
      (pss_cons (ps_for PassesOwn.never rfl (pi_range1 (by rfl) T.m_range (pa_cons (pe_callB call_len_seq (by rfl) T.m_len PySem.boot_len (pa_cons (pv 1) pa_nil)) pa_nil)) (pg_name (i := 2) sc_law_ints.nd rfl (Or.inl rfl))
      (pss_one (ps_if (PW.pt (pw_or (pt_not (pt_val (pe_callB call_isi (by rfl) T.m_isinstance (by decide +kernel) (pa_cons (pe_ix ix_list (pv 0) (pv 2) (fun _ _ => rfl)) (pa_cons (pe_bltn (v := .ty "int") (by rfl) T.m_int (by decide +kernel) rfl) pa_nil))))) (pw_or (pt_val (pe_callB call_isi (by rfl) T.m_isinstance (by decide +kernel) (pa_cons (pe_ix ix_list (pv 0) (pv 2) (fun _ _ => rfl)) (pa_cons (pe_bltn (v := .ty "bool") (by rfl) T.m_bool (by decide +kernel) rfl) pa_nil)))) (pw_or1 (pt_cmpR op_ne (pe_ix ix_list (pv 0) (pv 2) (fun _ _ => rfl)) (pe_ix ix_list (pv 1) (pv 2) (fun _ _ => rfl)) (nomark _))))))
      (pss_one (ps_ret pe_bl)) pss_nil)))
      (pss_one (ps_ret pe_bl)))), ?_⟩
  -- not a list, or of another length
  refine ⟨_, rfl, _, .ty "list", .type "list", .type "list", true, rfl, ClsV.ty _, .base (.lst hF), kit_ty (by decide +kernel), true, rfl, ?_⟩
  refine ⟨_, rfl, f, _, rfl, .inl (sq hF), _, rfl, d, _, rfl, .inl (sq hD), rfl, _, rfl, ?_⟩
  rw [nlen, nlen]
  refine ite2 (fun c => ?_) (fun c => ?_)
  · have c' : ¬ xs = ns := fun e => by
      rw [e] at c
      simp at c
    rw [decide_eq_false c'] at q
    exact q
  · have hlen : xs.length = ns.length := by
      have : ¬ ¬ (V.int (xs.length : Int) = V.int (ns.length : Int)) := fun h => c (by rw [decide_eq_false h] <;> rfl)
      have := V.int.inj (Decidable.not_not.mp this)
      omega
    refine ⟨_, rfl, d, _, rfl, .inl (sq hD), _, rfl, by rw [nlen]; omega, by rw [nlen]; omega, for_range (lo := 0) (n := ((ns.map V.int).length : Int).toNat) (fun i σ H' => ∃ y, σ = [some (.ref f), some (.ref d), y] ∧ H' = H ∧ xs.take i = ns.take i) ⟨none, rfl, rfl, rfl⟩ ?_ ?_⟩
    · intro i σ H' hi h
      obtain ⟨y, rfl, rfl, ht⟩ := h
      rw [nlen] at hi
      have hi : i < ns.length := by omega
      have gx : xs[i]? = some xs[i] := List.getElem?_eq_getElem (by omega)
      have gn : ns[i]? = some ns[i] := List.getElem?_eq_getElem hi
      have ax : atI (xs.map V.int) (0 + (i : Int)) = some (.int xs[i]) := at_of (j := i) (by omega) (int_get gx)
      have an : atI (ns.map V.int) (0 + (i : Int)) = some (.int ns[i]) := at_of (j := i) (by omega) (int_get gn)
      refine ⟨_, rfl, _, rfl, f, _, _, .int xs[i], rfl, rfl, sq hF, ax, .int xs[i], .ty "int", .type "int", .type "int", true, rfl, ClsV.ty _, .base (.int _), kit_ty (by decide +kernel), true, rfl, ?_⟩
      refine ⟨_, rfl, _, rfl, f, _, _, .int xs[i], rfl, rfl, sq hF, ax, .int xs[i], .ty "bool", .type "int", .type "bool", false, rfl, ClsV.ty _, .base (.int _), kit_ty (by decide +kernel), false, rfl, ?_⟩
      refine ⟨_, rfl, _, rfl, f, _, _, .int xs[i], rfl, rfl, sq hF, ax, _, rfl, _, rfl, d, _, _, .int ns[i], rfl, rfl, sq hD, an, rfl, _, rfl, ite2 (fun c => ?_) (fun c => ?_)⟩
      · have c' : ¬ xs = ns := fun e => by
          subst e
          simp at c
        rw [decide_eq_false c'] at q
        exact q
      · have e : xs[i] = ns[i] := by
          have : ¬ ¬ (V.int xs[i] = V.int ns[i]) := fun h => c (by rw [decide_eq_false h] <;> rfl)
          exact V.int.inj (Decidable.not_not.mp this)
        exact ⟨_, rfl, rfl, by rw [take_snoc gx, take_snoc gn, ht, e]⟩
    · intro σ H' h
      obtain ⟨y, rfl, rfl, ht⟩ := h
      rw [nlen, Int.toNat_natCast, ← hlen, List.take_length, hlen, List.take_length] at ht
      rw [decide_eq_true ht] at q
      exact q

end

/-! ### the law -/
def spLaw (K : PySem.W.Frag) : Sp := fun vs H Q _ => ∃ (a : Addr) (ns : List Int), vs = [.ref a] ∧ SL K H a ns ∧ ns.length ≤ 63 ∧ ∀ H', Q (.bl true) H'
theorem nat_of {z : Int} {m : Int} (h : 0 < m) : ∃ n : Nat, 1 + z % m = (n : Int) ∧ 1 ≤ n ∧ (n : Int) ≤ m := by
  have h1 := Int.emod_nonneg z (show m ≠ 0 by omega)
  have h2 := Int.emod_lt_of_pos z h
  exact ⟨(1 + z % m).toNat, by omega, by omega, by omega⟩

section
variable {P : Program} {w : World} {K : PySem.W.Frag} {mg : Str → Option Value} {base : Heap}
theorem sc_law_moved : FnScope ["piles", "one", "other", "found", "pile"] ["piles", "one", "other"] (defScope s_law_moved) := ⟨rfl, rfl, rfl, by decide +kernel, rfl, by decide +kernel, by decide +kernel⟩
/-- one coin laid from one pile to another -/
def sp_law_moved : Sp := fun vs H Q _ => ∃ (a : Addr) (ns : List Int) (x y n : Int), vs = [.ref a, .int x, .int y] ∧ IL H a ns ∧ IsSet n ns ∧ n ≤ 100 ∧ ∀ ms : List Int, IsSet n ms → NL Q H ms
theorem set_sum : ∀ {l : List Int} {i : Nat} {x v : Int}, l[i]? = some x → (l.set i v).sum = l.sum - x + v
  | [], _, _, _, h => by simp at h
  | a :: r, 0, x, v, h => by
    have e : a = x := Option.some.inj h
    subst e
    rw [List.set_cons_zero, List.sum_cons, List.sum_cons]
    omega
  | a :: r, i + 1, x, v, h => by
    have ih := set_sum (l := r) (i := i) (v := v) h
    rw [List.set_cons_succ, List.sum_cons, List.sum_cons, ih]
    omega
theorem set_nonneg {l : List Int} {i : Nat} {v : Int} (h : ∀ z ∈ l, 0 ≤ z) (hv : 0 ≤ v) : ∀ z ∈ l.set i v, 0 ≤ z := fun z hz => by
  rcases List.mem_or_eq_of_mem_set hz with h1 | h1
  · exact h z h1
  · rw [h1]
    exact hv
theorem fall_pos_set {n : Int} {l : List Int} (h : ∀ z ∈ l, 0 ≤ z) (hs : l.sum = n) (hn : 1 ≤ n) : IsSet n (fall (l.filter fun z => decide (z > 0))) := by
  have e : (fall (l.filter fun z => decide (z > 0))).sum = n := by rw [fall_sum, filter_pos_sum h, hs]
  refine ⟨⟨fun x hx => ?_, fall_falls _, fun q => ?_⟩, e⟩
  · have := (fall_perm _).mem_iff.mp hx
    have := of_decide_eq_true (List.mem_filter.mp this).2
    omega
  · rw [q] at e
    have : (0 : Int) = n := e
    omega
theorem ok_law_moved (T : Txt K mg) : Cal P w K mg base CX0 2 "_law_moved" ["piles", "one", "other"] sp_law_moved := by
  have C_law_fallen := ok_law_fallen (P := P) (w := w) (base := base) T
  refine cal_mk T.d_law_moved sc_law_moved ?_ (fun _ _ _ _ _ _ us hl => match us, hl with | [_, _, _], _ => rfl) (fun f cdv A outer s H vs Q E hr h => ?_)
  · intro vs H Q E h
    obtain ⟨a, ns, x, y, n, rfl, _⟩ := h
    rfl
  obtain ⟨a, ns, x, y, n, rfl, hS, hset, hn, q⟩ := h
  have hl := hset.len
  have hpos := hset.ne
  refine ⟨_, (pss_cons (ps_set (i := 3) sc_law_moved.nd rfl (Or.inl rfl) (pe_callTy (T := "list") call_list_of (by rfl) T.m_list (by decide +kernel) (pa_cons (pv 0) pa_nil)))
      (pss_cons (ps_asg (pe_op op_sub (pe_ix ix_list (pv 3) (pe_op op_mod (pv 1) (pe_callB call_len_seq (by rfl) T.m_len PySem.boot_len (pa_cons (pv 3) pa_nil))) (fun _ _ => rfl)) pe_int) (pg_sub (pv 3) (pe_op op_mod (pv 1) (pe_callB call_len_seq (by rfl) T.m_len PySem.boot_len (pa_cons (pv 3) pa_nil))) set_list))
      (pss_cons (ps_if (pt_cmpR op_lt (pe_op op_mod (pv 2) (pe_op op_add (pe_callB call_len_seq (by rfl) T.m_len PySem.boot_len (pa_cons (pv 0) pa_nil)) pe_int)) (pe_callB call_len_seq (by rfl) T.m_len PySem.boot_len (pa_cons (pv 0) pa_nil)) (nomark _))
      (pss_one (ps_asg (pe_op op_add (pe_ix ix_list (pv 3) (pe_op op_mod (pv 2) (pe_op op_add (pe_callB call_len_seq (by rfl) T.m_len PySem.boot_len (pa_cons (pv 0) pa_nil)) pe_int)) (fun _ _ => rfl)) pe_int) (pg_sub (pv 3) (pe_op op_mod (pv 2) (pe_op op_add (pe_callB call_len_seq (by rfl) T.m_len PySem.boot_len (pa_cons (pv 0) pa_nil)) pe_int)) set_list))) (pss_one (ps_expr (pe_bm PySem.F.plainAttrs_list PySem.F.slot_list_append PySem.F.type_list_append mt_append (pv 3) (pa_cons pe_int pa_nil)))))
      (pss_one (ps_ret (pe_callF C_law_fallen (hr.mono (by decide)) (pa_cons (pe_lc (own := [("pile", 4)]) (g := gName 4) rfl sc_law_moved.nd (pi_list (pv 3)) (blkOk_by (own := [("pile", 4)]) (N := ["piles", "one", "other", "found", "pile"]) (sc := defScope s_law_moved) (by decide +kernel)) (fun _ _ _ _ _ => pg_name (i := 4) sc_law_moved.nd rfl (Or.inl rfl)) (fun _ _ _ _ _ => (pts_one (pt_cmpR op_gt (pv 4) pe_int (nomark _)))) (fun _ _ _ _ _ => (pv 4))) pa_nil))))))), ?_⟩
  refine ⟨_, rfl, a, _, rfl, .inl (sq hS), fun F nF => ?_⟩
  have sm0 := same_new nF (.lst (ns.map V.int))
  have eF : IL (upd H F (.lst (ns.map V.int))) F ns := upd_same
  have eA : IL (upd H F (.lst (ns.map V.int))) a ns := sm0 _ _ hS
  have naF : a ≠ F := ne_of_none hS nF
  generalize upd H F (.lst (ns.map V.int)) = H1 at *
  have hc1 := Int.emod_nonneg x (show ((ns.map V.int).length : Int) ≠ 0 by rw [nlen]; omega)
  have hc2 := Int.emod_lt_of_pos x (show (0 : Int) < ((ns.map V.int).length : Int) by rw [nlen]; omega)
  obtain ⟨j, ej⟩ : ∃ j : Nat, x % ((ns.map V.int).length : Int) = j := ⟨(x % ((ns.map V.int).length : Int)).toNat, by omega⟩
  have hjl : j < ns.length := by rw [nlen] at hc2; rw [nlen] at ej; omega
  have gj : ns[j]? = some ns[j] := List.getElem?_eq_getElem hjl
  have hj1 := hset.1.pos _ (List.mem_of_getElem? gj)
  have hnn : ∀ z ∈ ns, 0 ≤ z := fun z hz => by have := hset.1.pos z hz; omega
  have hn1 : 1 ≤ n := by omega
  -- found[..] = found[..] - 1
  refine ⟨_, rfl, _, rfl, _, rfl, F, _, rfl, .inl (sq eF), _, _, rfl, rfl, (by rw [nlen]; show (0 : Int) < _; omega), F, _, _, .int ns[j], rfl, rfl, sq eF, at_of (j := j) ej (int_get gj), _, _, rfl, rfl, ?_⟩
  refine ⟨_, rfl, _, rfl, _, rfl, F, _, rfl, .inl (sq eF), _, _, rfl, rfl, (by rw [nlen]; show (0 : Int) < _; omega), F, ns.map V.int, _, j, rfl, rfl, eF, ?_, ?_⟩
  · unfold ixN
    rw [if_pos hc1, if_pos hc2, ej, Int.toNat_natCast]
  have eF2 : IL (upd H1 F (.lst ((ns.map V.int).set j (.int (ns[j] - 1))))) F (ns.set j (ns[j] - 1)) := by show upd _ _ _ _ = _; rw [upd_same, List.map_set]
  have eA2 : IL (upd H1 F (.lst ((ns.map V.int).set j (.int (ns[j] - 1))))) a ns := by show upd _ _ _ _ = _; rw [upd_ne naF]; exact eA
  have sm2 : Same H (upd H1 F (.lst ((ns.map V.int).set j (.int (ns[j] - 1))))) := same_mut sm0 nF _
  have hl2 : (ns.set j (ns[j] - 1)).length = ns.length := List.length_set
  have hs2 : (ns.set j (ns[j] - 1)).sum = n - 1 := by rw [set_sum gj, hset.2]; omega
  have hn2 : ∀ z ∈ ns.set j (ns[j] - 1), 0 ≤ z := set_nonneg hnn (by omega)
  generalize upd H1 F (.lst ((ns.map V.int).set j (.int (ns[j] - 1)))) = H2 at *
  generalize ns.set j (ns[j] - 1) = ms at *
  have hd1 := Int.emod_nonneg y (show ((ns.map V.int).length : Int) + 1 ≠ 0 by rw [nlen]; omega)
  have hd2 := Int.emod_lt_of_pos y (show (0 : Int) < ((ns.map V.int).length : Int) + 1 by rw [nlen]; omega)
  refine ⟨_, rfl, _, rfl, a, _, rfl, .inl (sq eA2), _, _, rfl, rfl, _, _, rfl, rfl, (by rw [nlen]; show (0 : Int) < _; omega), _, rfl, a, _, rfl, .inl (sq eA2), _, _, rfl, rfl, _, rfl, ite2 (fun c => ?w1) (fun c => ?w2)⟩
  case' w1 =>
    have c' : y % (((ns.map V.int).length : Int) + 1) < ((ns.map V.int).length : Int) := of_decide_eq_true c
    obtain ⟨k, ek⟩ : ∃ k : Nat, y % (((ns.map V.int).length : Int) + 1) = k := ⟨(y % (((ns.map V.int).length : Int) + 1)).toNat, by omega⟩
    have hkl : k < ms.length := by
      rw [ek] at c'
      rw [nlen] at c'
      omega
    have gk : ms[k]? = some ms[k] := List.getElem?_eq_getElem hkl
    have hk1 := hn2 _ (List.mem_of_getElem? gk)
    refine ⟨_, rfl, _, rfl, _, rfl, a, _, rfl, .inl (sq eA2), _, _, rfl, rfl, _, _, rfl, rfl, (by rw [nlen]; show (0 : Int) < _; omega), F, _, _, .int ms[k], rfl, rfl, sq eF2, at_of (j := k) ek (int_get gk), _, _, rfl, rfl, ?_⟩
    refine ⟨_, rfl, _, rfl, _, rfl, a, _, rfl, .inl (sq eA2), _, _, rfl, rfl, _, _, rfl, rfl, (by rw [nlen]; show (0 : Int) < _; omega), F, ms.map V.int, _, k, rfl, rfl, eF2, (by unfold ixN; rw [if_pos hd1, if_pos (by rw [nlen] at c'; rw [nlen, nlen, hl2]; exact c'), ek, Int.toNat_natCast]), ?_⟩
    have eF3 : IL (upd H2 F (.lst ((ms.map V.int).set k (.int (ms[k] + 1))))) F (ms.set k (ms[k] + 1)) := by show upd _ _ _ _ = _; rw [upd_same, List.map_set]
    have sm3 : Same H (upd H2 F (.lst ((ms.map V.int).set k (.int (ms[k] + 1))))) := same_mut sm2 nF _
    have hl3 : (ms.set k (ms[k] + 1)).length ≤ 200 := by rw [List.length_set]; omega
    have hs3 : (ms.set k (ms[k] + 1)).sum = n := by rw [set_sum gk, hs2]; omega
    have hn3 : ∀ z ∈ ms.set k (ms[k] + 1), 0 ≤ z := set_nonneg hn2 (by omega)
    generalize upd H2 F (.lst ((ms.map V.int).set k (.int (ms[k] + 1)))) = H3 at *
    generalize ms.set k (ms[k] + 1) = ls at *
    clear gk hk1 hkl
  case' w2 =>
    refine ⟨_, rfl, .inl ⟨rfl, _, sq eF2⟩, F, _, _, rfl, rfl, eF2, by rw [nlen]; exact smallL (by omega), ?_⟩
    have eF3 : IL (upd H2 F (.lst (ms.map V.int ++ [V.int 1]))) F (ms ++ [1]) := by show upd _ _ _ _ = _; rw [upd_same, List.map_append] <;> rfl
    have sm3 : Same H (upd H2 F (.lst (ms.map V.int ++ [V.int 1]))) := same_mut sm2 nF _
    have hl3 : (ms ++ [1]).length ≤ 200 := by rw [List.length_append, List.length_singleton]; omega
    have hs3 : (ms ++ [1]).sum = n := by rw [List.sum_append, hs2]; show n - 1 + (1 + 0) = n; omega
    have hn3 : ∀ z ∈ ms ++ [1], 0 ≤ z := fun z hz => by
      rcases List.mem_append.mp hz with h1 | h1
      · exact hn2 z h1
      · rw [List.mem_singleton.mp h1]
        decide
    generalize upd H2 F (.lst (ms.map V.int ++ [V.int 1])) = H3 at *
    generalize ms ++ [1] = ls at *
  all_goals
    refine ⟨_, rfl, F, rfl, ⟨_, sq eF3⟩, fun D nD => lc_list (K := K) (a := F) (xs := ls.map V.int) (fun i H' => Same H3 H' ∧ IL H' D ((ls.take i).filter fun z => decide (z > 0))) ⟨same_new nD _, upd_same⟩ (fun i H' _ h => sq (h.1 _ _ eF3)) ?_ ?_⟩
    · intro i x H' hx h
      obtain ⟨z, hz, rfl⟩ := get_int hx
      obtain ⟨sm4, eD⟩ := h
      have hfl := List.length_filter_le (fun z : Int => decide (z > 0)) (ls.take i)
      rw [List.length_take] at hfl
      refine ⟨rfl, _, rfl, _, _, rfl, rfl, _, rfl, ?_⟩
      rw [take_snoc hz, List.filter_append, List.filter_cons]
      refine ite2 (fun c => ?_) (fun c => ?_)
      · have c' : z > 0 := of_decide_eq_true c
        refine ⟨_, rfl, _, eD, by rw [nlen]; exact smallL (by omega), same_mut sm4 nD _, ?_⟩
        show upd _ _ _ _ = _
        rw [upd_same, if_pos (decide_eq_true c'), List.map_append] <;> rfl
      · have c' : ¬ z > 0 := fun h => c (decide_eq_true h)
        rw [if_neg (by simp only [decide_eq_true_eq]; exact c')]
        exact ⟨sm4, by rw [List.filter_nil, List.append_nil]; exact eD⟩
    · intro H4 h
      obtain ⟨sm4, eD⟩ := h
      rw [nlen, List.take_length] at eD
      exact ⟨D, _, rfl, eD, fun H5 p sm5 np ep => q _ (fall_pos_set hn3 hs3 hn1) H5 p ((sm3.trans sm4).trans sm5) ((sm3.trans sm4).free np) ep⟩

end

section
variable {P : Program} {w : World} {K : PySem.W.Frag} {mg : Str → Option Value} {base : Heap}
theorem sc_law_marks : FnScope ["piles", "stair", "longer", "k", "marks", "mark"] ["piles"] (defScope s_law_marks) := ⟨rfl, rfl, rfl, by decide +kernel, rfl, by decide +kernel, by decide +kernel⟩
/-- the marks of a round setting, None of another -/
def sp_law_marks : Sp := fun vs H Q _ => ∃ (a : Addr) (ns : List Int), vs = [.ref a] ∧ IL H a ns ∧ Good ns ∧ ns.sum ≤ 100 ∧ (marksBy ns = [] → ∀ H', Same H H' → Q .non H') ∧ (marksBy ns ≠ [] → NL Q H (marksBy ns))
theorem isBits_filter (ms : List Int) : (ms.filter fun m => !decide (m = 0 ∨ m = 1)) = [] ↔ isBits ms = true := by
  rw [isBits_iff, List.filter_eq_nil_iff]
  unfold Bits
  constructor
  · intro h m hm
    have := h m hm
    by_cases c : m = 0 ∨ m = 1
    · exact c
    · rw [decide_eq_false c] at this
      exact absurd rfl this
  · intro h m hm
    rw [decide_eq_true (h m hm)]
    decide
theorem inV01 (z : Int) : inV (.int z) [V.int 0, V.int 1] = decide (z = 0 ∨ z = 1) := by
  show ((0 : Int) == z || ((1 : Int) == z || false)) = _
  by_cases c : z = 0
  · subst c
    rfl
  · by_cases d : z = 1
    · subst d
      rfl
    · rw [show ((0 : Int) == z) = false from beq_eq_false_iff_ne.mpr fun e => c e.symm, show ((1 : Int) == z) = false from beq_eq_false_iff_ne.mpr fun e => d e.symm, decide_eq_false (by omega)]
      rfl
theorem ok_law_marks (T : Txt K mg) : Cal P w K mg base CX0 2 "_law_marks" ["piles"] sp_law_marks := by
  have C_law_stair := ok_law_stair (P := P) (w := w) (base := base) T
  refine cal_mk T.d_law_marks sc_law_marks ?_ (fun _ _ _ _ _ _ us hl => match us, hl with | [_], _ => rfl) (fun f cdv A outer s H vs Q E hr h => ?_)
  · intro vs H Q E h
    obtain ⟨a, ns, rfl, _⟩ := h
    rfl
  obtain ⟨a, ns, rfl, hS, hg, hs, q0, q1⟩ := h
  have hll := len_le_sum hg.pos
  have hne := List.length_pos_iff.mpr hg.ne
  refine ⟨_, (pss_cons (ps_set (i := 1) sc_law_marks.nd rfl (Or.inr rfl) (pe_callF C_law_stair (hr.mono (by decide)) (pa_cons (pe_callB (cr_sum rfl) (by rfl) T.m_sum (by decide +kernel) (pa_cons (pv 0) pa_nil)) pa_nil)))
      (pss_cons (ps_if (pt_cmpR op_gt (pe_callB call_len_seq (by rfl) T.m_len PySem.boot_len (pa_cons (pv 0) pa_nil)) (pv 1) (nomark _))
      (pss_one (ps_ret pe_non)) pss_nil)
      (pss_cons (ps_set (i := 2) sc_law_marks.nd rfl (Or.inr rfl) (pe_op op_cat (pv 0) (pe_lc (own := [("k", 3)]) (g := gName 3) rfl sc_law_marks.nd (pi_range1 (by rfl) T.m_range (pa_cons (pe_op op_sub (pv 1) (pe_callB call_len_seq (by rfl) T.m_len PySem.boot_len (pa_cons (pv 0) pa_nil))) pa_nil)) (blkOk_by (own := [("k", 3)]) (N := ["piles", "stair", "longer", "k", "marks", "mark"]) (sc := defScope s_law_marks) (by decide +kernel)) (fun _ _ _ _ _ => pg_name (i := 3) sc_law_marks.nd rfl (Or.inl rfl)) (fun _ _ _ _ _ => pts_nil) (fun _ _ _ _ _ => pe_int))))
      (pss_cons (ps_setLc (i := 4) (own := [("k", 3)]) (g := gName 3) rfl sc_law_marks.nd rfl rfl (sw_true rfl rfl rfl (by decide +kernel)) (pi_range1 (by rfl) T.m_range (pa_cons (pv 1) pa_nil)) (blkOk_by (own := [("k", 3)]) (N := ["piles", "stair", "longer", "k", "marks", "mark"]) (sc := defScope s_law_marks) (by decide +kernel)) (fun _ _ _ _ _ => pg_name (i := 3) sc_law_marks.nd rfl (Or.inl rfl)) (fun _ _ _ _ _ => pts_nil) (fun _ _ _ _ _ => (pe_op op_sub (pe_ix (ix_listK K) (pv 2) (pv 3) (fun _ _ => rfl)) (pe_op op_sub (pe_op op_sub (pv 1) pe_int) (pv 3)))))
      (pss_cons (ps_if (pt_cmpR op_gt (pe_callB call_len_seq (by rfl) T.m_len PySem.boot_len (pa_cons (pe_lc (own := [("mark", 5)]) (g := gName 5) rfl sc_law_marks.nd (pi_list (pv 4)) (blkOk_by (own := [("mark", 5)]) (N := ["piles", "stair", "longer", "k", "marks", "mark"]) (sc := defScope s_law_marks) (by decide +kernel)) (fun _ _ _ _ _ => pg_name (i := 5) sc_law_marks.nd rfl (Or.inl rfl)) (fun _ _ _ _ _ => (pts_one (pt_cmpR (op_notIn_seqK K) (pv 5) (pe_lst (pa_cons pe_int (pa_cons pe_int pa_nil))) rfl))) (fun _ _ _ _ _ => (pv 5))) pa_nil)) pe_int (nomark _))
      (pss_one (ps_ret pe_non)) pss_nil)
      (pss_one (ps_ret (pv 4)))))))), ?_⟩
  obtain ⟨n, en⟩ : ∃ n : Nat, ns.sum = n := ⟨ns.sum.toNat, by omega⟩
  refine ⟨_, rfl, a, ns, rfl, sq hS, n, congrArg (fun z => [V.int z]) en, by omega, by omega, ?_⟩
  have hst := stair_le (n := n) (by omega) (b := 14) (by omega) (by omega)
  have hst1 := (stair_spec (n := n) (by omega)).1
  unfold marksBy at q0 q1
  rw [en, Int.toNat_natCast] at q0 q1
  generalize stair n = S at *
  refine ⟨_, rfl, a, _, rfl, .inl (sq hS), _, rfl, _, _, rfl, rfl, _, rfl, ite2 (fun c => ?_) (fun c => ?_)⟩
  · have c' : (S : Int) < ((ns.map V.int).length : Int) := of_decide_eq_true c
    rw [nlen] at c'
    rw [if_pos (by omega)] at q0
    exact q0 rfl H (Same.refl H)
  · have c' : ¬ (S : Int) < ((ns.map V.int).length : Int) := fun h => c (decide_eq_true h)
    rw [nlen] at c'
    rw [if_neg (by omega)] at q0 q1
    -- longer
    refine ⟨_, rfl, _, rfl, _, rfl, a, _, rfl, .inl (sq hS), _, _, rfl, rfl, _, rfl, by rw [nlen]; omega, by rw [nlen]; omega, fun D nD => lc_range (lo := 0) (n := ((S : Int) - ((ns.map V.int).length : Int)).toNat) (fun i H' => Same H H' ∧ IL H' D (List.replicate i 0)) ⟨same_new nD _, upd_same⟩ ?_ ?_⟩
    · intro i H' hi h
      obtain ⟨sm, eD⟩ := h
      rw [nlen] at hi
      refine ⟨rfl, _, eD, by rw [nlen, List.length_replicate]; exact smallL (by omega), same_mut sm nD _, ?_⟩
      show upd _ _ _ _ = _
      rw [upd_same, List.replicate_succ', List.map_append] <;> rfl
    · intro H1 h
      obtain ⟨sm, eD⟩ := h
      rw [nlen, show ((S : Int) - (ns.length : Int)).toNat = S - ns.length by omega] at eD
      refine ⟨a, D, _, _, rfl, rfl, sm _ _ hS, eD, by rw [nlen, nlen, List.length_replicate]; exact small (by omega), fun L nL => ?_⟩
      have sL := same_new nL (.lst (ns.map V.int ++ (List.replicate (S - ns.length) (0 : Int)).map V.int))
      have eL : IL (upd H1 L (.lst (ns.map V.int ++ (List.replicate (S - ns.length) (0 : Int)).map V.int))) L (ns ++ List.replicate (S - ns.length) 0) := by
        show upd _ _ _ _ = _
        rw [upd_same, List.map_append]
      have smL := sm.trans sL
      generalize upd H1 L (.lst (ns.map V.int ++ (List.replicate (S - ns.length) (0 : Int)).map V.int)) = H2 at *
      -- marks
      refine ⟨_, rfl, S, rfl, by omega, by omega, fun M nM => lc_range (lo := 0) (n := (S : Int).toNat) (fun i H' => Same H2 H' ∧ IL H' M ((marksAt S ns).take i)) ⟨same_new nM _, upd_same⟩ ?_ ?_⟩
      · intro i H' hi h
        obtain ⟨sm3, eM⟩ := h
        have hi : i < S := by omega
        have gl : (ns ++ List.replicate (S - ns.length) (0 : Int))[i]? = some (ns.getD i 0) := by
          rcases Nat.lt_or_ge i ns.length with l | l
          · rw [List.getElem?_append_left l, List.getD_eq_getElem?_getD, List.getElem?_eq_getElem l] <;> rfl
          · rw [List.getElem?_append_right l, List.getElem?_replicate, if_pos (by omega), List.getD_eq_getElem?_getD, List.getElem?_eq_none l] <;> rfl
        have gm := marksAt_get (ns := ns) hi
        refine ⟨rfl, _, rfl, _, rfl, L, _, _, .int (ns.getD i 0), rfl, rfl, sq (sm3 _ _ eL), at_of (j := i) (by omega) (int_get gl), _, rfl, _, _, rfl, rfl, _, rfl, _, _, rfl, rfl, _, _, rfl, rfl, ?_⟩
        refine ⟨_, eM, by rw [nlen, List.length_take, marksAt_len]; exact smallL (by omega), same_mut sm3 nM _, ?_⟩
        show upd _ _ _ _ = _
        rw [upd_same, take_snoc gm, List.map_append, Int.zero_add] <;> rfl
      · intro H3 h
        obtain ⟨sm3, eM⟩ := h
        rw [Int.toNat_natCast, List.take_of_length_le (by rw [marksAt_len]; exact Nat.le_refl _)] at eM
        have hml := marksAt_len S ns
        generalize hms : marksAt S ns = ms at *
        -- if len([..]) > 0
        refine ⟨_, rfl, M, rfl, ⟨_, sq eM⟩, fun F nF => lc_list (K := K) (a := M) (xs := ms.map V.int) (fun i H' => Same H3 H' ∧ IL H' F ((ms.take i).filter fun m => !decide (m = 0 ∨ m = 1))) ⟨same_new nF _, upd_same⟩ (fun i H' _ h => sq (h.1 _ _ eM)) ?_ ?_⟩
        · intro i x H' hx h
          obtain ⟨z, hz, rfl⟩ := get_int hx
          obtain ⟨sm4, eF⟩ := h
          have hjl := (List.getElem?_eq_some_iff.mp hz).1
          have hfl := List.length_filter_le (fun m : Int => !decide (m = 0 ∨ m = 1)) (ms.take i)
          rw [List.length_take] at hfl
          refine ⟨rfl, _, rfl, (by show 2 ≤ sizeLine; decide), fun p np => ?_⟩
          have s5 := same_new np (.lst [V.int 0, V.int 1])
          refine ⟨p, _, rfl, .inl (sq upd_same), rfl, rfl, ?_⟩
          rw [if_pos rfl, inV01]
          rw [take_snoc hz, List.filter_append, List.filter_cons]
          refine ⟨_, rfl, ite2 (fun c => ?_) (fun c => ?_)⟩
          · rw [if_pos c]
            refine ⟨_, rfl, _, s5 _ _ eF, by rw [nlen]; exact smallL (by omega), same_mut (sm4.trans s5) nF _, ?_⟩
            show upd _ _ _ _ = _
            rw [upd_same, List.map_append] <;> rfl
          · rw [if_neg c]
            exact ⟨sm4.trans s5, by rw [List.filter_nil, List.append_nil]; exact s5 _ _ eF⟩
        · intro H4 h
          obtain ⟨sm4, eF⟩ := h
          rw [nlen, List.take_length] at eF
          have sm' := (smL.trans sm3).trans sm4
          refine ⟨F, _, rfl, .inl (sq eF), _, _, rfl, rfl, _, rfl, ite2 (fun c => ?_) (fun c => ?_)⟩
          · have c' : (0 : Int) < (((ms.filter fun m => !decide (m = 0 ∨ m = 1)).map V.int).length : Int) := of_decide_eq_true c
            rw [nlen] at c'
            rw [if_neg] at q0
            · exact q0 rfl _ sm'
            · intro e
              rw [(isBits_filter ms).mpr e] at c'
              exact absurd c' (by decide)
          · have c' : ¬ (0 : Int) < (((ms.filter fun m => !decide (m = 0 ∨ m = 1)).map V.int).length : Int) := fun h => c (decide_eq_true h)
            rw [nlen] at c'
            have hb : isBits ms = true := (isBits_filter ms).mp (List.eq_nil_of_length_eq_zero (by omega))
            rw [if_pos hb] at q1
            exact ⟨_, rfl, q1 (fun e => by rw [e] at hml; exact absurd hml (by show ¬ (0 = S); omega)) _ M (sm'.trans (Same.refl _)) (smL.free nM) (sm4 _ _ eM)⟩

end

section
variable {P : Program} {w : World} {K : PySem.W.Frag} {mg : Str → Option Value} {base : Heap}
theorem sc_law : FnScope ["script", "coins", "piles", "due", "handed", "told", "found", "which", "e"] ["script"] (defScope s_law) := ⟨rfl, rfl, rfl, by decide +kernel, rfl, by decide +kernel, by decide +kernel⟩
theorem marksBy_len {ns : List Int} (hg : Good ns) (hs : ns.sum ≤ 100) : (marksBy ns).length ≤ 14 := by
  have hll := len_le_sum hg.pos
  have hne := List.length_pos_iff.mpr hg.ne
  have hst := stair_le (n := ns.sum.toNat) (by omega) (b := 14) (by omega) (by omega)
  unfold marksBy
  split
  · exact Nat.zero_le _
  · split
    · rw [marksAt_len]
      exact hst
    · exact Nat.zero_le _
theorem ok_law_at (T : Txt K mg) {f : Addr} {fd : FuncData} (F : FunD K "law" "law" (defArgs s_law) (defBody s_law) (defScope s_law) [] [] f fd) : FnOk P w K mg base CX0 4 f fd ["script"] (spLaw K) := by
  have C_law_by_marks := ok_law_by_marks (P := P) (w := w) (base := base) T
  have C_law_cell := ok_law_cell (P := P) (w := w) (base := base) T
  have C_law_drawn_marks := ok_law_drawn_marks (P := P) (w := w) (base := base) T
  have C_law_ints := ok_law_ints (P := P) (w := w) (base := base) T
  have C_law_marks := ok_law_marks (P := P) (w := w) (base := base) T
  have C_law_moved := ok_law_moved (P := P) (w := w) (base := base) T
  have C_law_setting := ok_law_setting (P := P) (w := w) (base := base) T
  have C_is_round := ok_is_round (P := P) (w := w) (base := base) T
  have C_marks_of := ok_marks_of (P := P) (w := w) (base := base) T
  refine F.ok sc_law (fun vs H Q E h => ?_) (fun cdv A outer s H vs Q E hr h => ?_)
  · obtain ⟨a, ns, rfl, _⟩ := h
    rfl
  obtain ⟨a, ns, rfl, hS, hlen, q⟩ := h
  refine ⟨_, PSs.nox ((pss_cons (ps_set (i := 1) sc_law.nd rfl (Or.inl rfl) (pe_op op_add pe_int (pe_op op_mod (pe_callF C_law_cell (hr.mono (by decide)) (pa_cons (pv 0) (pa_cons pe_int pa_nil))) pe_int)))
      (pss_cons (ps_set (i := 2) sc_law.nd rfl (Or.inl rfl) (pe_callF C_law_setting (hr.mono (by decide)) (pa_cons (pv 0) (pa_cons pe_int (pa_cons (pv 1) pa_nil)))))
      (pss_cons (ps_if (pt_cmpR op_eq (pe_op op_mod (pe_callF C_law_cell (hr.mono (by decide)) (pa_cons (pv 0) (pa_cons pe_int pa_nil))) pe_int) pe_int (nomark _))
      (pss_cons (ps_set (i := 2) sc_law.nd rfl (Or.inl rfl) (pe_callF C_law_by_marks (hr.mono (by decide)) (pa_cons (pe_callF C_law_drawn_marks (hr.mono (by decide)) (pa_cons (pv 0) (pa_cons pe_int (pa_cons (pv 1) pa_nil)))) pa_nil)))
      (pss_one (ps_if (pt_cmpR op_eq (pe_op op_mod (pe_op op_fdiv (pe_callF C_law_cell (hr.mono (by decide)) (pa_cons (pv 0) (pa_cons pe_int pa_nil))) pe_int) pe_int) pe_int (nomark _))
      (pss_one (ps_set (i := 2) sc_law.nd rfl (Or.inl rfl) (pe_callF C_law_moved (hr.mono (by decide)) (pa_cons (pv 2) (pa_cons (pe_callF C_law_cell (hr.mono (by decide)) (pa_cons (pv 0) (pa_cons pe_int pa_nil))) (pa_cons (pe_callF C_law_cell (hr.mono (by decide)) (pa_cons (pv 0) (pa_cons pe_int pa_nil))) pa_nil)))))) pss_nil))) pss_nil)
      (pss_cons (ps_set (i := 3) sc_law.nd rfl (Or.inl rfl) (pe_callF C_law_marks (hr.mono (by decide)) (pa_cons (pv 2) pa_nil)))
      (pss_cons (ps_set (i := 4) sc_law.nd rfl (Or.inl rfl) (pe_callTy (T := "list") call_list_of (by rfl) T.m_list (by decide +kernel) (pa_cons (pv 2) pa_nil)))
      (pss_cons (ps_set (i := 5) sc_law.nd rfl (Or.inl rfl) (pe_callX C_is_round takes_no (hr.mono (by decide)) (pa_cons (pv 4) pa_nil)))
      (pss_cons (ps_set (i := 6) sc_law.nd rfl (Or.inl rfl) pe_non)
      (pss_cons (ps_set (i := 7) sc_law.nd rfl (Or.inl rfl) (pe_un un_neg pe_int))
      (pss_cons (L2N.ps_try_as (i := 8) rfl rfl sc_law.nd rfl rfl ⟨rfl, by decide, .inl T.g_PileError⟩ takes_no (fun W pn xe tk _ => (pss_one (ps_set (i := 6) sc_law.nd rfl (Or.inl rfl) (pe_callX C_marks_of tk (hr.mono (by decide)) (pa_cons (pv 4) pa_nil)))))
      (fun a oe cls d pn hz hf => (pss_one (ps_set (i := 7) sc_law.nd rfl (Or.inl rfl) (pe_callP (ok_law_which (P := P) (w := w) (base := base) T hz hf) (roomH_suite (hr.mono (by decide)) _) (hot_suite hz hf) (List.mem_cons_self ..) (pa_cons (pv 8) pa_nil))))))
      (pss_cons (ps_if (PW.pt (pw_or (pt_not (pt_val (pe_callB call_isi (by rfl) T.m_isinstance (by decide +kernel) (pa_cons (pv 5) (pa_cons (pe_bltn (v := .ty "bool") (by rfl) T.m_bool (by decide +kernel) rfl) pa_nil))))) (pw_or (pt_cmpR op_ne (pv 5) (pe_cmpR op_notN (pv 3) pe_non (nomark _)) (nomark _)) (pw_or1 (pt_cmpR (op_neD hr.units) (pv 4) (pv 2) (nomark _))))))
      (pss_one (ps_ret pe_bl)) pss_nil)
      (pss_cons (ps_if (pt_cmpR op_isN (pv 3) pe_non (nomark _))
      (pss_one (ps_ret (pe_and (pe_cmpR op_isN (pv 6) pe_non (nomark _)) (pe_one (pe_cmpR op_eq (pv 7) pe_int (nomark _)))))) pss_nil)
      (pss_cons (ps_if (PW.pt (pw_or (pt_cmpR op_ne (pv 7) (pe_un un_neg pe_int) (nomark _)) (pw_or1 (pt_not (pt_val (pe_callF C_law_ints (hr.mono (by decide)) (pa_cons (pv 6) (pa_cons (pv 3) pa_nil))))))))
      (pss_one (ps_ret pe_bl)) pss_nil)
      (pss_cons (ps_expr (pe_bm PySem.F.plainAttrs_list PySem.F.slot_list_append PySem.F.type_list_append mt_append (pv 6) (pa_cons pe_int pa_nil)))
      (pss_one (ps_ret (pe_callF C_law_ints (hr.mono (by decide)) (pa_cons (pe_callX C_marks_of takes_no (hr.mono (by decide)) (pa_cons (pv 4) pa_nil)) (pa_cons (pv 3) pa_nil))))))))))))))))))), ?_⟩
  refine ⟨_, rfl, a, ns, 0, rfl, hS, by omega, fun z => ⟨_, _, rfl, rfl, (by show (0 : Int) < 100; decide), _, _, rfl, rfl, ?_⟩⟩
  obtain ⟨n, en, n1, n2⟩ := nat_of (z := z) (m := 100) (by decide)
  rw [show (fun i j : Int => V.int (i + j)) 1 (z % 100) = V.int n from congrArg V.int en]
  refine ⟨_, rfl, _, rfl, a, ns, 1, n, rfl, hS, by omega, n1, by omega, fun ps0 hps0 H0 p0 sm00 ep0 => ?_⟩
  have hS0 := sm00.seq hS
  refine ⟨_, rfl, a, ns, 5, rfl, hS0, by omega, fun z5 => ⟨_, _, rfl, rfl, (by show (0 : Int) < 2; decide), rfl, _, rfl, ite2 (fun c => ?w1) (fun c => ?w2)⟩⟩
  case' w1 =>
    refine ⟨_, rfl, _, rfl, a, ns, 6, n, rfl, hS0, by omega, n1, by omega, fun ms hb hml hms H1 m sm1 nm em => ?_⟩
    have hst := stair_le n1 (b := 14) (by omega) (by omega)
    refine ⟨m, ms, rfl, em, by omega, fun H2 p2 sm2 np2 ep2 => ?_⟩
    have hset2 : IsSet n (ofMarks ms) := ofMarks_set n1 hb hml hms
    have hS2 := sm2.seq (sm1.seq hS0)
    generalize ofMarks ms = ps2 at *
    have smP := (sm00.trans sm1).trans sm2
    refine ⟨_, rfl, a, ns, 5, rfl, hS2, by omega, fun z6 => ⟨_, _, rfl, rfl, ⟨by decide, by decide⟩, _, _, rfl, rfl, (by show (0 : Int) < 2; decide), rfl, _, rfl, ite2 (fun c => ?w3) (fun c => ?w4)⟩⟩
    case' w3 =>
      refine ⟨_, rfl, _, rfl, a, ns, 7, rfl, hS2, by omega, fun z7 => ⟨_, rfl, a, ns, 8, rfl, hS2, by omega, fun z8 => ⟨p2, ps2, z7, z8, n, rfl, ep2, hset2, by omega, fun ps hps HX p sm np ep => ?_⟩⟩⟩
    case' w4 =>
      have hps := hset2
      have ep := ep2
      generalize ps2 = ps at *
      generalize p2 = p at *
      generalize H2 = HX at *
  case' w2 =>
    have hps := hps0
    have ep := ep0
    generalize ps0 = ps at *
    generalize p0 = p at *
    generalize H0 = HX at *
  all_goals
    clear c
    have hl := hps.len
    have hg := hps.1
    have hs : ps.sum ≤ 100 := by rw [hps.2]; omega
    -- due
    refine ⟨_, rfl, p, ps, rfl, ep, hg, hs, fun hm H1 sm1 => ?_, fun hm H1 d sm1 nd ed => ?_⟩
    · have ep1 := sm1 _ _ ep
      refine ⟨_, rfl, p, _, rfl, .inl (sq ep1), fun h nh => ?_⟩
      have sm2 := same_new nh (.lst (ps.map V.int))
      have eh : IL (upd H1 h (.lst (ps.map V.int))) h ps := upd_same
      have ep2 := sm2 _ _ ep1
      generalize upd H1 h (.lst (ps.map V.int)) = H2 at *
      refine ⟨_, rfl, h, ps, rfl, eh, by omega, fun e => absurd ⟨hg, hs⟩ e, fun _ _ H3 sm3 => ?_⟩
      rw [decide_eq_false (show ¬ marksBy ps ≠ [] from fun e => e hm)]
      refine ⟨1, rfl, _, rfl, h, ps, rfl, sm3 _ _ eh, by omega, fun e => absurd ⟨hg, hs⟩ e, fun _ _ _ H4 sm4 => ?_, fun _ _ e => absurd hm e⟩
      refine ⟨true, (T.xc "NotRound" (by decide)).pe, fun _ x nx => ?_, fun z => by cases z⟩
      refine ⟨_, rfl, 1, "NotRound", rfl, rfl, rfl, rfl, fun H5 sm5 => ?_⟩
      have eh5 := sm5 _ _ (sm4 _ _ (sm3 _ _ eh))
      have ep5 := sm5 _ _ (sm4 _ _ (sm3 _ _ ep2))
      refine ⟨_, rfl, _, .ty "bool", .type "bool", .type "bool", true, rfl, ClsV.ty _, .base (.bl _), kit_ty (by decide +kernel), true, rfl, ?_⟩
      refine ⟨_, rfl, _, rfl, rfl, rfl, _, rfl, ite2 (fun c => absurd c (by rw [decide_eq_true (rfl : V.non = V.non)]; decide)) (fun _ => ?_)⟩
      refine ⟨_, rfl, _, rfl, _, _, dp_ints (sq eh5), dp_ints (sq ep5), sh_ints _, sh_ints _, _, rfl, ite2 (fun c => absurd c (by rw [eqv_ints, decide_eq_true rfl]; decide)) (fun _ => ?_)⟩
      refine ⟨_, rfl, rfl, _, rfl, ite2 (fun _ => ?_) (fun c => absurd (decide_eq_true (rfl : V.non = V.non)) c)⟩
      refine ⟨_, rfl, rfl, ?_⟩
      refine ⟨true, congrArg V.bl (decide_eq_true rfl), _, rfl, rfl, ?_⟩
      rw [show decide (V.int ((1 : Nat) : Int) = V.int 1) = true from decide_eq_true rfl]
      exact q _
    · have ep1 := sm1 _ _ ep
      refine ⟨_, rfl, p, _, rfl, .inl (sq ep1), fun h nh => ?_⟩
      have sm2 := same_new nh (.lst (ps.map V.int))
      have eh : IL (upd H1 h (.lst (ps.map V.int))) h ps := upd_same
      have ep2 := sm2 _ _ ep1
      have ed2 := sm2 _ _ ed
      generalize upd H1 h (.lst (ps.map V.int)) = H2 at *
      refine ⟨_, rfl, h, ps, rfl, eh, by omega, fun e => absurd ⟨hg, hs⟩ e, fun _ _ H3 sm3 => ?_⟩
      rw [decide_eq_true hm]
      refine ⟨1, rfl, _, rfl, h, ps, rfl, sm3 _ _ eh, by omega, fun e => absurd ⟨hg, hs⟩ e, fun _ _ e => absurd e hm, fun _ _ _ H4 x sm4 nx ex => ?_⟩
      have eh4 := sm4 _ _ (sm3 _ _ eh)
      have ep4 := sm4 _ _ (sm3 _ _ ep2)
      have ed4 := sm4 _ _ (sm3 _ _ ed2)
      refine ⟨_, rfl, _, .ty "bool", .type "bool", .type "bool", true, rfl, ClsV.ty _, .base (.bl _), kit_ty (by decide +kernel), true, rfl, ?_⟩
      refine ⟨_, rfl, _, rfl, rfl, rfl, _, rfl, ite2 (fun c => absurd c (by rw [decide_eq_false (show ¬ V.ref d = V.non from fun e => by cases e)]; decide)) (fun _ => ?_)⟩
      refine ⟨_, rfl, _, rfl, _, _, dp_ints (sq eh4), dp_ints (sq ep4), sh_ints _, sh_ints _, _, rfl, ite2 (fun c => absurd c (by rw [eqv_ints, decide_eq_true rfl]; decide)) (fun _ => ?_)⟩
      refine ⟨_, rfl, rfl, _, rfl, ite2 (fun c => absurd (of_decide_eq_true c) (fun e => by cases e)) (fun _ => ?_)⟩
      refine ⟨_, rfl, 1, rfl, rfl, _, rfl, ite2 (fun c => absurd c (by decide)) (fun _ => ?_)⟩
      refine ⟨_, rfl, _, rfl, x, d, _, _, rfl, ex, ed4, by have := marksBy_len hg hs; omega, _, rfl, ?_⟩
      rw [decide_eq_true rfl]
      have nhx : h ≠ x := ne_of_none (sm3 _ _ eh) nx
      have ndx : d ≠ x := ne_of_none (sm3 _ _ ed2) nx
      refine ⟨_, rfl, .inl ⟨rfl, _, sq ex⟩, x, _, _, rfl, rfl, ex, by rw [nlen]; have := marksBy_len hg hs; exact smallL (by omega), ?_⟩
      refine ⟨_, rfl, h, ps, rfl, by show upd _ _ _ _ = _; rw [upd_ne nhx]; exact eh4, by omega, fun e => absurd ⟨hg, hs⟩ e, fun _ _ e => absurd e hm, fun _ _ _ H6 y sm6 ny ey => ?_⟩
      refine ⟨_, rfl, y, d, _, _, rfl, ey, sm6 _ _ (by rw [upd_ne ndx]; exact ed4), by have := marksBy_len hg hs; omega, ?_⟩
      rw [decide_eq_true rfl]
      exact q _

end

/-! ### the head: facts by names, the run -/
def dd_is_setting : He.DefD := ⟨("is_setting", none), "is_setting", "is_setting", defArgs s_is_setting, defBody s_is_setting, defScope s_is_setting, [], []⟩
def dd_must_be : He.DefD := ⟨("must_be", none), "must_be", "must_be", defArgs s_must_be, defBody s_must_be, defScope s_must_be, [], []⟩
def dd_stair_of : He.DefD := ⟨("stair_of", none), "stair_of", "stair_of", defArgs s_stair_of, defBody s_stair_of, defScope s_stair_of, [], []⟩
def dd_marks_by : He.DefD := ⟨("marks_by", none), "marks_by", "marks_by", defArgs s_marks_by, defBody s_marks_by, defScope s_marks_by, [], []⟩
def dd_is_round : He.DefD := ⟨("is_round", none), "is_round", "is_round", defArgs s_is_round, defBody s_is_round, defScope s_is_round, [], []⟩
def dd_marks_of : He.DefD := ⟨("marks_of", none), "marks_of", "marks_of", defArgs s_marks_of, defBody s_marks_of, defScope s_marks_of, [], []⟩
def dd_law_cell : He.DefD := ⟨("_law_cell", none), "_law_cell", "_law_cell", defArgs s_law_cell, defBody s_law_cell, defScope s_law_cell, [], []⟩
def dd_law_ints : He.DefD := ⟨("_law_ints", none), "_law_ints", "_law_ints", defArgs s_law_ints, defBody s_law_ints, defScope s_law_ints, [], []⟩
def dd_law_next : He.DefD := ⟨("_law_next", none), "_law_next", "_law_next", defArgs s_law_next, defBody s_law_next, defScope s_law_next, [], []⟩
def dd_law_fallen : He.DefD := ⟨("_law_fallen", none), "_law_fallen", "_law_fallen", defArgs s_law_fallen, defBody s_law_fallen, defScope s_law_fallen, [], []⟩
def dd_law_turned : He.DefD := ⟨("_law_turned", none), "_law_turned", "_law_turned", defArgs s_law_turned, defBody s_law_turned, defScope s_law_turned, [], []⟩
def dd_law_stair : He.DefD := ⟨("_law_stair", none), "_law_stair", "_law_stair", defArgs s_law_stair, defBody s_law_stair, defScope s_law_stair, [], []⟩
def dd_law_by_marks : He.DefD := ⟨("_law_by_marks", none), "_law_by_marks", "_law_by_marks", defArgs s_law_by_marks, defBody s_law_by_marks, defScope s_law_by_marks, [], []⟩
def dd_law_drawn_marks : He.DefD := ⟨("_law_drawn_marks", none), "_law_drawn_marks", "_law_drawn_marks", defArgs s_law_drawn_marks, defBody s_law_drawn_marks, defScope s_law_drawn_marks, [], []⟩
def dd_law_elder : He.DefD := ⟨("_law_elder", none), "_law_elder", "_law_elder", defArgs s_law_elder, defBody s_law_elder, defScope s_law_elder, [], []⟩
def dd_law_drawn_piles : He.DefD := ⟨("_law_drawn_piles", none), "_law_drawn_piles", "_law_drawn_piles", defArgs s_law_drawn_piles, defBody s_law_drawn_piles, defScope s_law_drawn_piles, [], []⟩
def dd_law_setting : He.DefD := ⟨("_law_setting", none), "_law_setting", "_law_setting", defArgs s_law_setting, defBody s_law_setting, defScope s_law_setting, [], []⟩
def dd_law_marks : He.DefD := ⟨("_law_marks", none), "_law_marks", "_law_marks", defArgs s_law_marks, defBody s_law_marks, defScope s_law_marks, [], []⟩
def dd_law_which : He.DefD := ⟨("_law_which", none), "_law_which", "_law_which", defArgs s_law_which, defBody s_law_which, defScope s_law_which, [], []⟩
def dd_law_moved : He.DefD := ⟨("_law_moved", none), "_law_moved", "_law_moved", defArgs s_law_moved, defBody s_law_moved, defScope s_law_moved, [], []⟩
def dd_law : He.DefD := ⟨("law", none), "law", "law", defArgs s_law, defBody s_law, defScope s_law, [], []⟩
def fn : List He.DefD := [dd_is_setting, dd_must_be, dd_stair_of, dd_marks_by, dd_is_round, dd_marks_of, dd_law_cell, dd_law_ints, dd_law_next, dd_law_fallen, dd_law_turned, dd_law_stair, dd_law_by_marks, dd_law_drawn_marks, dd_law_elder, dd_law_drawn_piles, dd_law_setting, dd_law_marks, dd_law_which, dd_law_moved, dd_law]
def fa : List He.Fa := [.glo "is_setting", .glo "must_be", .glo "stair_of", .glo "marks_by", .glo "is_round", .glo "marks_of", .glo "_law_cell", .glo "_law_ints", .glo "_law_next", .glo "_law_fallen", .glo "_law_turned", .glo "_law_stair", .glo "_law_by_marks", .glo "_law_drawn_marks", .glo "_law_elder", .glo "_law_drawn_piles", .glo "_law_setting", .glo "_law_marks", .glo "_law_which", .glo "_law_moved", .glo "law", .int "MOST" 100, .free "ValueError", .free "bool", .free "int", .free "isinstance", .free "len", .free "list", .free "min", .free "range", .free "reversed", .free "sorted", .free "sum"]
abbrev R : PySem.W.OpenRow := PySem.W.OpenLaw.row PySem.Challenge.rw_pilewheel_k06_round_or_not
abbrev hk : PySem.W.Hook := hookXE 4 fa fn excB
def ob (s : PySem.W.SharedT) : AlE := obsXE 4 fa fn excB (HandSHeadRun.getT s)
theorem ob_eq (s : PySem.W.SharedT) : ob s = hk.obs s.abs := obsXE_eq (HandSHeadRun.getT_eq s)
def loose : List PySem.Str := ["PileError", "NoPiles", "NotRound", "NoMarks", "NoNumber", "NoNote", "is_setting", "must_be", "stair_of", "marks_by", "is_round", "marks_of", "_law_cell", "_law_ints", "_law_next", "_law_fallen", "_law_turned", "_law_stair", "_law_by_marks", "_law_drawn_marks", "_law_elder", "_law_drawn_piles", "_law_setting", "_law_marks", "_law_which", "_law_moved", "MOST"]
theorem run (w : World) : HandSHeadRun.RunEq R (PySem.W.view R.prog [31]) hk ob 4000 loose w := by
  intro os
  kernel_rfl
theorem facts {P : Program} {w : World} {K : PySem.W.Frag} {h : Heap} {mg : Str → Option Value} {f : Addr} (X : K.In h) (G : h.Ns mainGlobals mg) (hfa : mg ("law" : Str) = some (.ref f)) (c : He.SaysD fa fn K) (cx : excB K = true) :
    ∃ fd : FuncData, (∀ (s : Shared) (v : Value), BindsTo s fd ⟨[v], []⟩ [("script", v)]) ∧ ∀ base : Heap, K.In base → base.Ns mainGlobals mg → FnOk P w K mg base CX0 4 f fd ["script"] (spLaw K) := by
  have T : Txt K mg := {
      d_is_setting := by
        obtain ⟨fd, F⟩ := c.def_ 0 (d := dd_is_setting) rfl
        exact ⟨fd, F, He.glo_ok X G (c.fact 0 (f := .glo "is_setting") rfl)⟩,
      d_must_be := by
        obtain ⟨fd, F⟩ := c.def_ 1 (d := dd_must_be) rfl
        exact ⟨fd, F, He.glo_ok X G (c.fact 1 (f := .glo "must_be") rfl)⟩,
      d_stair_of := by
        obtain ⟨fd, F⟩ := c.def_ 2 (d := dd_stair_of) rfl
        exact ⟨fd, F, He.glo_ok X G (c.fact 2 (f := .glo "stair_of") rfl)⟩,
      d_marks_by := by
        obtain ⟨fd, F⟩ := c.def_ 3 (d := dd_marks_by) rfl
        exact ⟨fd, F, He.glo_ok X G (c.fact 3 (f := .glo "marks_by") rfl)⟩,
      d_is_round := by
        obtain ⟨fd, F⟩ := c.def_ 4 (d := dd_is_round) rfl
        exact ⟨fd, F, He.glo_ok X G (c.fact 4 (f := .glo "is_round") rfl)⟩,
      d_marks_of := by
        obtain ⟨fd, F⟩ := c.def_ 5 (d := dd_marks_of) rfl
        exact ⟨fd, F, He.glo_ok X G (c.fact 5 (f := .glo "marks_of") rfl)⟩,
      d_law_cell := by
        obtain ⟨fd, F⟩ := c.def_ 6 (d := dd_law_cell) rfl
        exact ⟨fd, F, He.glo_ok X G (c.fact 6 (f := .glo "_law_cell") rfl)⟩,
      d_law_ints := by
        obtain ⟨fd, F⟩ := c.def_ 7 (d := dd_law_ints) rfl
        exact ⟨fd, F, He.glo_ok X G (c.fact 7 (f := .glo "_law_ints") rfl)⟩,
      d_law_next := by
        obtain ⟨fd, F⟩ := c.def_ 8 (d := dd_law_next) rfl
        exact ⟨fd, F, He.glo_ok X G (c.fact 8 (f := .glo "_law_next") rfl)⟩,
      d_law_fallen := by
        obtain ⟨fd, F⟩ := c.def_ 9 (d := dd_law_fallen) rfl
        exact ⟨fd, F, He.glo_ok X G (c.fact 9 (f := .glo "_law_fallen") rfl)⟩,
      d_law_turned := by
        obtain ⟨fd, F⟩ := c.def_ 10 (d := dd_law_turned) rfl
        exact ⟨fd, F, He.glo_ok X G (c.fact 10 (f := .glo "_law_turned") rfl)⟩,
      d_law_stair := by
        obtain ⟨fd, F⟩ := c.def_ 11 (d := dd_law_stair) rfl
        exact ⟨fd, F, He.glo_ok X G (c.fact 11 (f := .glo "_law_stair") rfl)⟩,
      d_law_by_marks := by
        obtain ⟨fd, F⟩ := c.def_ 12 (d := dd_law_by_marks) rfl
        exact ⟨fd, F, He.glo_ok X G (c.fact 12 (f := .glo "_law_by_marks") rfl)⟩,
      d_law_drawn_marks := by
        obtain ⟨fd, F⟩ := c.def_ 13 (d := dd_law_drawn_marks) rfl
        exact ⟨fd, F, He.glo_ok X G (c.fact 13 (f := .glo "_law_drawn_marks") rfl)⟩,
      d_law_elder := by
        obtain ⟨fd, F⟩ := c.def_ 14 (d := dd_law_elder) rfl
        exact ⟨fd, F, He.glo_ok X G (c.fact 14 (f := .glo "_law_elder") rfl)⟩,
      d_law_drawn_piles := by
        obtain ⟨fd, F⟩ := c.def_ 15 (d := dd_law_drawn_piles) rfl
        exact ⟨fd, F, He.glo_ok X G (c.fact 15 (f := .glo "_law_drawn_piles") rfl)⟩,
      d_law_setting := by
        obtain ⟨fd, F⟩ := c.def_ 16 (d := dd_law_setting) rfl
        exact ⟨fd, F, He.glo_ok X G (c.fact 16 (f := .glo "_law_setting") rfl)⟩,
      d_law_marks := by
        obtain ⟨fd, F⟩ := c.def_ 17 (d := dd_law_marks) rfl
        exact ⟨fd, F, He.glo_ok X G (c.fact 17 (f := .glo "_law_marks") rfl)⟩,
      d_law_which := by
        obtain ⟨fd, F⟩ := c.def_ 18 (d := dd_law_which) rfl
        exact ⟨fd, F, He.glo_ok X G (c.fact 18 (f := .glo "_law_which") rfl)⟩,
      d_law_moved := by
        obtain ⟨fd, F⟩ := c.def_ 19 (d := dd_law_moved) rfl
        exact ⟨fd, F, He.glo_ok X G (c.fact 19 (f := .glo "_law_moved") rfl)⟩,
      c_MOST := by
        obtain ⟨t, e⟩ := He.int_ok X G (c.fact 21 (f := .int "MOST" 100) rfl)
        exact ⟨_, e, t, rfl⟩,
      m_ValueError := He.free_ok X G (c.fact 22 (f := .free "ValueError") rfl),
      m_bool := He.free_ok X G (c.fact 23 (f := .free "bool") rfl),
      m_int := He.free_ok X G (c.fact 24 (f := .free "int") rfl),
      m_isinstance := He.free_ok X G (c.fact 25 (f := .free "isinstance") rfl),
      m_len := He.free_ok X G (c.fact 26 (f := .free "len") rfl),
      m_list := He.free_ok X G (c.fact 27 (f := .free "list") rfl),
      m_min := He.free_ok X G (c.fact 28 (f := .free "min") rfl),
      m_range := He.free_ok X G (c.fact 29 (f := .free "range") rfl),
      m_reversed := He.free_ok X G (c.fact 30 (f := .free "reversed") rfl),
      m_sorted := He.free_ok X G (c.fact 31 (f := .free "sorted") rfl),
      m_sum := He.free_ok X G (c.fact 32 (f := .free "sum") rfl),
      xc := fun x hx => xcls_of X G (List.all_eq_true.mp (He.ba cx).2 x hx),
      g_PileError := He.glo_ok X G (He.ba cx).1 }
  obtain ⟨fd, F⟩ := c.def_ 20 (d := dd_law) rfl
  have e := hfa.symm.trans (He.glo_ok X G (c.fact 20 (f := .glo "law") rfl))
  cases e
  have b := FunD.bindsA (ps := ["script"]) F fun _ _ _ _ _ _ us hl => match us, hl with | [_], _ => rfl
  exact ⟨fd, fun s v => b s [v] rfl, fun base _ _ => ok_law_at T F⟩

end PW
open PySem PySem.W PySem.Calls PyProof.Rows
set_option maxRecDepth 100000 in
set_option maxHeartbeats 0 in
theorem PySem.Challenge.cw_pilewheel_k06_round_or_not_holds : PySem.Challenge.rw_pilewheel_k06_round_or_not.Holds := by
  w_on; o_law
  refine HandSHeadRun.head_any (r := OpenLaw.row PySem.Challenge.rw_pilewheel_k06_round_or_not) (q := view (OpenLaw.row PySem.Challenge.rw_pilewheel_k06_round_or_not).prog [31]) (H := PW.hk) (ob := PW.ob) (M := 4000) (loose := PW.loose) (d := HandSHeadRun.topDef (OpenLaw.row PySem.Challenge.rw_pilewheel_k06_round_or_not).prog 31) (kwd := []) PW.ob_eq
    (by kernel_rfl) (fun s => by kernel_rfl) PW.run (by kernel_rfl) (by kernel_rfl) (by kernel_rfl) (by rfl) (by first | assumption | decide +kernel) (by decide +kernel) ⟨rfl, rfl, rfl, rfl, rfl, by decide +kernel⟩ ?hw ?hc
  case hw => w_witness2
  case hc =>
    refine L2.walk_ofE (l := PySem.Challenge.rw_pilewheel_k06_round_or_not) (n := 63) (k := 4) (x := "script") (CX := L2.CX0) rfl (by decide) (by kernel_rfl) ⟨rfl, by decide, by decide⟩ ?F (fun _ _ _ _ z => z)
    intro w mg fa h Y G hmg0
    obtain ⟨K, KX, c, cx⟩ := Y
    have hmg : mg ("law" : PySem.Str) = some (.ref fa) := by
      have e : (HandSHeadRun.topDef (OpenLaw.row PySem.Challenge.rw_pilewheel_k06_round_or_not).prog 31).name = ("law" : PySem.Str) := by kernel_rfl
      rw [← e]
      exact hmg0
    obtain ⟨fd, hb, hF⟩ := PW.facts (P := (PySem.Challenge.rw_pilewheel_k06_round_or_not).prog) (w := w) KX G hmg c cx
    exact ⟨K, fd, PW.spLaw K, KX, hb, fun H a ns hl _ hS => ⟨a, ns, rfl, hS, hl, fun _ => rfl⟩, hF⟩
