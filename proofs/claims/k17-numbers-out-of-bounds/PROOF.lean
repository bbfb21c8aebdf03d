import PyProof.Rows.All
import Wide.All
import OpenK.AllK
import Wide.FinOn
import KE.KStateDown
import Lean
import HandS.ForMost
import HandS.Exc
import HandS.More
import HandS.WordsExc
import HandS.Defaults
import HandS.Wide
import HandS.SortInts
import HandS.Rev
import HandS.IsInst
import HandS.Deep
import HandS.Zip
import KE.SortData
import KE.DataMinMax
import KE.DataCmp
import HandS.Head0
import HandS.Head1
import HandS.Head2
import HandS.HeadEnd
import HandS.HeadHook1
import HandS.HeadHook2
import HandS.ExcOwn
import HandS.ExcCtx
import HandS.ExcIs
import HandS.ExcInitHot
import HandS.Hot
import HandS.HotCalls
import HandS.TryMany
import HandS.SetFor
import PySem.Challenge.RW_pilewheel_k17_numbers_out_of_bounds
set_option Elab.async false
set_option linter.all false
set_option maxRecDepth 100000
set_option maxHeartbeats 4000000
namespace PW
open PySem PySem.Spec PyProof.Rows L2

/-! ### a def that may be called -/
structure Cal (P : Program) (w : World) (K : PySem.W.Frag) (mg : Str → Option Value) (base : Heap) (CX : CXT) (k : Nat) (x : Str) (ps : List Str) (sp : Sp) : Prop where
  ex : ∃ (f : Addr) (fd : FuncData), FnOk P w K mg base CX k f fd ps sp ∧ mg x = some (.ref f) ∧ PySem.W.keepIn K (.ref f) = true ∧ Binds K fd ps []
def DefAt (K : PySem.W.Frag) (mg : Str → Option Value) (x : Str) (st : Stmt) : Prop :=
  ∃ fd, FunD K x x (defArgs st) (defBody st) (defScope st) [] [] (He.ga K x) fd ∧ mg x = some (.ref (He.ga K x))
theorem pe_callF {X : Cx} {k : Nat} {x : Str} {ps : List Str} {sp : Sp} {e : Expr} {es : List Expr} {t : TA} {p pos : Pos} (C : Cal X.prog X.w X.K X.mg X.base CX0 k x ps sp) (hr : Room k X.A) (ha : PA X (e :: es) t) (hg : Gl X x := by rfl)
    (hdb : (x == ("__debug__" : Str)) = false := by decide) (he : starEach (e :: es) X.env = (false, eval e X.env) :: starEach es X.env := by rfl) (hpl : (backTo pos (starEach es X.env)).any (·.1) = false := by rfl) :
    PE X (.Call (.Name x p) (e :: es) [] pos) (tCall sp [] E0 t) := by
  obtain ⟨f, fd, F, hm, hk, hb⟩ := C.ex
  exact pe_call F hr hg hm hk hb .nil pass0 ha hdb he hpl
theorem pe_globX {X : Cx} {x : Str} {v : V} {pos : Pos} (h : ∃ u, X.mg x = some u ∧ RelV v u) (hg : Gl X x := by rfl) (hd : (x == ("__debug__" : Str)) = false := by decide) : PE X (.Name x pos) (tC v) := by
  obtain ⟨u, hm, r⟩ := h
  exact pe_glob hg hm r hd
theorem cal_mk {P : Program} {w : World} {K : PySem.W.Frag} {mg : Str → Option Value} {base : Heap} {x : Str} {st : Stmt} {N ps : List Str} {k : Nat} {sp : Sp} (D : DefAt K mg x st) (S : FnScope N ps (defScope st)) (len : ∀ vs H Q E, sp vs H Q E → vs.length = ps.length)
    (hb : ∀ (kV doc pm : Value) (an : Option Addr) (cdv ct : Value) (us : List Value), us.length = ps.length → bindArgs (PySem.W.fnOf x x (defArgs st) (defBody st) (defScope st) .none kV doc pm an cdv ct) ⟨us, []⟩ = pure (ps.zip us))
    (hbody : ∀ (f : Addr) (cdv : Value) (A : Around) (outer : List Env) (s : Shared) (H : Hp) (vs : List V) (Q : VK) (E : XK), Room k (A.deeper (envOfC x (defScope st) s.heap.objs.size f cdv)) → sp vs H Q E →
      ∃ t, PSs (cxOf CX0 P w K mg base N x (defScope st) f cdv A outer s H E).nox (defBody st) t ∧ t { nx := fun _ H' => Q .non H', rt := Q } (start N vs) H) : Cal P w K mg base CX0 (k + 1) x ps sp := by
  obtain ⟨fd, F, g⟩ := D
  refine ⟨⟨_, fd, F.ok S len (fun cdv A outer s H vs Q E hr h => ?_), g, F.kp, F.bindsN hb⟩⟩
  obtain ⟨t, h1, h2⟩ := hbody _ cdv A outer s H vs Q E hr h
  exact ⟨t, h1.nox, h2⟩
/-! ### heaps -/
theorem same_new {H : Hp} {p : Addr} (h : H p = none) (o : HO) : Same H (upd H p o) := fun b u q => by rw [upd_ne (ne_of_none q h)]; exact q
theorem same_mut {H H' : Hp} {p : Addr} (e : Same H H') (h : H p = none) (o : HO) : Same H (upd H' p o) := fun b u q => by
  rw [upd_ne (ne_of_none q h)]
  exact e b u q
theorem small {n : Nat} (h : n ≤ 100000) : n ≤ sizeLine := Nat.le_trans h (by decide)
theorem smallL {n : Nat} (h : n ≤ 100000) : n < sizeLine := Nat.lt_of_le_of_lt h (by decide)
/-- a list of ints that may be changed; the script -/
abbrev IL (H : Hp) (a : Addr) (ns : List Int) : Prop := H a = some (.lst (ns.map V.int))
abbrev SL (K : PySem.W.Frag) (H : Hp) (a : Addr) (ns : List Int) : Prop := SqL K H a (ns.map V.int)
/-- a new list of ints -/
abbrev NL (Q : VK) (H : Hp) (ns : List Int) : Prop := ∀ (H' : Hp) (p : Addr), Same H H' → H p = none → IL H' p ns → Q (.ref p) H'
theorem sq {K : PySem.W.Frag} {H : Hp} {a : Addr} {xs : List V} (h : H a = some (.lst xs)) : SqL K H a xs := .inl (.inl h)
theorem nlen {ns : List Int} : (ns.map V.int).length = ns.length := List.length_map _
theorem take_snoc {α : Type} {l : List α} {i : Nat} {x : α} (h : l[i]? = some x) : l.take (i + 1) = l.take i ++ [x] := by
  rw [List.take_add_one, h] <;> rfl
theorem cut_to (xs : List V) {j : Nat} (h : j ≤ xs.length) : cutV xs none (some (j : Int)) = xs.take j := by
  unfold cutV
  rw [HT.sIx_none, HT.sIx_nat, Nat.min_eq_left h] <;> rfl
theorem cut_from (xs : List V) {j : Nat} (h : j ≤ xs.length) : cutV xs (some (j : Int)) none = xs.drop j := by
  unfold cutV
  rw [HT.sIx_none, HT.sIx_nat, Nat.min_eq_left h]
  exact List.take_of_length_le (by rw [List.length_drop]; exact Nat.le_refl _)
theorem get_int {ns : List Int} {i : Nat} {x : V} (h : (ns.map V.int)[i]? = some x) : ∃ z, ns[i]? = some z ∧ x = .int z := by
  rw [List.getElem?_map] at h
  cases e : ns[i]? with
  | none => rw [e] at h; cases h
  | some z => rw [e] at h; exact ⟨z, rfl, (Option.some.inj h).symm⟩
theorem int_get {ns : List Int} {i : Nat} {z : Int} (h : ns[i]? = some z) : (ns.map V.int)[i]? = some (.int z) := by
  rw [List.getElem?_map, h] <;> rfl
/-- list(reversed(e)), e a list -/
def tListRev (K : PySem.W.Frag) (te : TE) : TE := fun σ H Q => te σ H fun v H1 => ∃ (a : Addr) (xs : List V), v = .ref a ∧ SqL K H1 a xs ∧ ∀ q, H1 q = none → Q (.ref q) (upd H1 q (.lst xs.reverse))
/-! ### rules within a comprehension: the written part by name -/
theorem ix_listK {X : Cx} (K : PySem.W.Frag) (h : X.K = K := by rfl) : IxR X (rIxL K) := by
  subst h
  exact ix_list
theorem call_len_seqK {X : Cx} (K : PySem.W.Frag) (h : X.K = K := by rfl) : CallR X (.builtin "len") (fun xs H Q => ∃ p ys, xs = [.ref p] ∧ (SqL K H p ys ∨ SqT K H p ys) ∧ Q (.int ys.length) H) := by
  subst h
  exact call_len_seq
theorem op_in_seqK {X : Cx} (K : PySem.W.Frag) (h : X.K = K := by rfl) : OpR X (compareOp .In) (rIn K false) := by
  subst h
  exact op_in_seq
theorem op_notIn_seqK {X : Cx} (K : PySem.W.Frag) (h : X.K = K := by rfl) : OpR X (compareOp .NotIn) (rIn K true) := by
  subst h
  exact op_notIn_seq
theorem sl_listK {X : Cx} (K : PySem.W.Frag) (h : X.K = K := by rfl) : SlR X (rSlL K) := by
  subst h
  exact sl_list
theorem hu65 {A : Around} {k : Nat} (r : Room k A) : A.units + 65 < cLine := by
  have := r.un
  omega
theorem call_list_ofK {X : Cx} (K : PySem.W.Frag) (h : X.K = K := by rfl) : CallR X (.type "list") (fun xs H Q => ∃ p ys, xs = [.ref p] ∧ (SqL K H p ys ∨ SqT K H p ys) ∧ ∀ l, H l = none → Q (.ref l) (upd H l (.lst ys))) := by
  subst h
  exact call_list_of

/-! ### list(reversed(e)) -/
section
variable {prog : Program} {w : World} {A : Around} {E : Value → Shared → Prop} {s : Shared} {R : Result → Shared → Prop}
theorem ext_rev (hh : A.handled = none) {it l : Addr} {items : Array Value} (hit : s.heap.IsRevIter it l ((items.size : Int) - 1)) (hl : s.heap.IsList l items) (hne : l ≠ it) (hn : items.size ≤ sizeLine) (S : Addr) (res : Value) (c0 : Nat)
    (hS : s.heap.get? S = some { cls := .type "list", data := .seq #[] c0 }) (hSi : S ≠ it) (hSl : S ≠ l)
    (hR : ∀ (h' : Heap) (tk : Nat) (acc' : Array Value) (c' : Nat), (∀ b o, b ≠ S → b ≠ it → s.heap.get? b = some o → h'.get? b = some o) → h'.get? S = some { cls := .type "list", dict := none, data := .seq acc' c', slots := #[] } →
      ItemsOf (fun i v => items[items.size - 1 - i]? = some v) acc' items.size → R (.ok (.ret res)) { s with heap := h', toks := tk }) :
    wpAny (model prog w) A.in1 (Builtin.List.listExtendWith (.ref S) (.ref it) res)
      (fun fin s' => match fin with | .done f => R (.ok f) s' | .again c' => c'.quiet = true ∧ codeAny (model prog w) A c' R s') (fun e s' => R (.error e) s') s := by
  have W := (Walks.listRev (prog := prog) (w := w) (A := A.in1) hh it l hne items).toS
  have hSf : S ∉ [it, l] := by simp only [List.mem_cons, List.not_mem_nil, or_false, not_or]; exact ⟨hSi, hSl⟩
  have hT : s.TypeIs (.ref it) "list_reverseiterator" := Heap.IsRevIter.typeIs hit
  have h1 : Builtin.List.listSameRef (.ref S) (.ref it) = false := by simp [Builtin.List.listSameRef, hSi]
  unfold Builtin.List.listExtendWith
  refine wpAny_bind (wpAny_typeOf hT ?_)
  rw [if_neg (by rw [h1]; decide)]
  refine wpAny_bind (wpAny_pyIter_revIter (s := s) hit ?_)
  refine wpAny_bind (wpAny_holding ?_)
  unfold Builtin.List.listLengthHint
  refine wpAny_bind (wpAny_specialOf hT RT.nolen_lri ?_)
  show wpAny _ A.in1 (specialOf (Value.ref it) (Str.ofString "__length_hint__") >>= _) _ _ _
  refine wpAny_bind (wpAny_specialOf hT RT.hint_lri ?_)
  generalize hid : ("list_reverseiterator.__length_hint__" : String) = id0
  wp_delta
  rw [show splitId id0 = some ("list_reverseiterator", "__length_hint__") from by subst hid; decide +kernel]
  subst hid
  refine wpAny_bind (wpAny_isInstance (b := true) hT (by rw [isSubtype_type]; kernel_rfl) ?_)
  refine wpAny_pure ?_
  rw [if_neg (by decide)]
  have e0 : ((items.size : Nat) : Int) - 1 - ((0 : Nat) : Int) = (items.size : Int) - 1 := by omega
  refine wpAny_pure ⟨plainId_quiet F.plain_extend_loop _, codeAny_extend_loopS W hn _ hSf _ items.size 0 _ _ _ rfl (Nat.zero_le _) ⟨Nat.zero_le _, by rw [e0]; exact hit, hl⟩ hS (ItemsOf.nil _) fun s' acc' c' hm hS' hacc => ?_⟩
  rw [Moved.eq_with hm]
  refine hR s'.heap s'.toks acc' c' (fun b o hb hb2 e => hm.heap b o (fun hmem => ?_) e) hS' hacc
  rcases List.mem_cons.mp hmem with e' | hmem
  · exact hb e'
  · exact hb2 (List.mem_singleton.mp hmem)
theorem init_rev (hh : A.handled = none) {it l : Addr} {items : Array Value} (hit : s.heap.IsRevIter it l ((items.size : Int) - 1)) (hl : s.heap.IsList l items) (hne : l ≠ it) (hn : items.size ≤ sizeLine) (S : Addr)
    (hS : s.heap.get? S = some { cls := .type "list", data := .seq #[] }) (hSi : S ≠ it) (hSl : S ≠ l)
    (hR : ∀ (h' : Heap) (tk : Nat) (acc' : Array Value) (c' : Nat), (∀ b o, b ≠ S → b ≠ it → s.heap.get? b = some o → h'.get? b = some o) → h'.get? S = some { cls := .type "list", dict := none, data := .seq acc' c', slots := #[] } →
      ItemsOf (fun i v => items[items.size - 1 - i]? = some v) acc' items.size → R (.ok (.ret .none)) { s with heap := h', toks := tk }) :
    wpAny (model prog w) A.in1 (Builtin.«list.__init__» ⟨[.ref S, .ref it], []⟩)
      (fun fin s' => match fin with | .done f => R (.ok f) s' | .again c' => c'.quiet = true ∧ codeAny (model prog w) A c' R s') (fun e s' => R (.error e) s') s := by
  show wpAny _ _ (do let old ← Builtin.List.listItems (.ref S); Builtin.List.listUpdate (.ref S) (fun _ => #[]); letGo old.toList.reverse; Builtin.List.listExtendWith (.ref S) (.ref it) .none) _ _ s
  refine wpAny_bind ?_
  unfold Builtin.List.listItems
  refine wpAny_bind (wpAny_seqItems hS rfl (wpAny_pure ?_))
  show wpAny _ _ (updateSeq S (fun _ => #[]) >>= fun _ => letGo (#[] : Array Value).toList.reverse >>= fun _ => Builtin.List.listExtendWith (.ref S) (.ref it) .none) _ _ s
  refine wpAny_bind (wpAny_updateSeq hS rfl ?_)
  have hS₂ := Heap.get?_update_self (Obj.mapSeq (fun _ => (#[] : Array Value))) hS rfl
  have oth : ∀ b o, b ≠ S → s.heap.get? b = some o → (s.heap.update S (Obj.mapSeq (fun _ => (#[] : Array Value)))).get? b = some o :=
    fun b o hb e => (Heap.get?_update_other _ _ (Ne.symm hb)).trans e
  refine wpAny_bind (wpAny_letGo ?_)
  refine ext_rev (s := { s with heap := s.heap.update S (Obj.mapSeq (fun _ => (#[] : Array Value))) }) hh (hit.at fun o e => oth it o (Ne.symm hSi) e) ?_ hne hn S .none _ hS₂ hSi hSl fun h' tk acc' c' hk hS' hacc => ?_
  · obtain ⟨o, e, q⟩ := hl
    exact ⟨o, oth l o (Ne.symm hSl) e, q⟩
  · exact hR h' tk acc' c' (fun b o hb hb2 e => hk b o hb hb2 (oth b o hb e)) hS' hacc
theorem call_list_rev {it l : Addr} {items : Array Value} {Q : Value → Shared → Prop} (hh : A.handled = none) (hit : s.heap.IsRevIter it l ((items.size : Int) - 1)) (hl : s.heap.IsList l items) (hne : l ≠ it) (hn : items.size ≤ sizeLine)
    (hQ : ∀ (h' : Heap) (tk : Nat) (acc' : Array Value) (c' : Nat), (∀ b o, b ≠ it → s.heap.get? b = some o → h'.get? b = some o) →
      h'.get? s.heap.objs.size = some { cls := .type "list", dict := none, data := .seq acc' c', slots := #[] } → ItemsOf (fun i v => items[items.size - 1 - i]? = some v) acc' items.size → Q (.ref s.heap.objs.size) { s with heap := h', toks := tk }) :
    wpAny (model prog w) A (call (.type "list") [.ref it]) Q E s := by
  obtain ⟨oi, hoi, _⟩ := id hit
  obtain ⟨ol, hol, _⟩ := id hl
  refine callType_codes (Q₁ := fun obj s₁ => obj = .ref s.heap.objs.size ∧ s₁ = { s with heap := s.heap.push { cls := .type "list", data := .seq #[] } }) F.called_list (F.typeCall_list_1 _) F.entry_list_init
    (code_list_new _ ⟨rfl, rfl⟩) fun obj s₁ h₁ => ?_
  obtain ⟨rfl, rfl⟩ := h₁
  have hS : (s.heap.push { cls := .type "list", data := .seq #[] }).get? s.heap.objs.size = some { cls := .type "list", data := .seq #[] } := Heap.get?_push_size _ rfl
  refine ⟨⟨_, hS, rfl⟩, F.args_list_init_2 _ _, init_rev (A := A.in1) (s := { s with heap := s.heap.push { cls := .type "list", data := .seq #[] } }) hh (hit.at fun o e => Heap.get?_push_of_some _ e) (hl.push _) hne hn _ hS (Nat.ne_of_gt (Heap.lt_size hoi)) (Nat.ne_of_gt (Heap.lt_size hol)) fun h' tk acc' c' hk hS' hacc => ?_⟩
  exact ⟨rfl, hQ h' tk acc' c' (fun b o hb e => hk b o (Nat.ne_of_lt (Heap.lt_size e)) hb (Heap.get?_push_of_some _ e)) hS' hacc⟩
end
theorem pe_listRev {X : Cx} {e : Expr} {te : TE} {p p2 pos pos2 : Pos} (hc : X.calm = true) (hg : Gl X "list") (hm : X.mg "list" = none) (hg2 : Gl X "reversed") (hm2 : X.mg "reversed" = none) (he : PE X e te)
    (hs : starEach [e] X.env = (false, eval e X.env) :: starEach [] X.env := by rfl)
    (hs2 : starEach [.Call (.Name "reversed" p2) [e] [] pos2] X.env = (false, eval (.Call (.Name "reversed" p2) [e] [] pos2) X.env) :: starEach [] X.env := by rfl) :
    PE X (.Call (.Name "list" p) [.Call (.Name "reversed" p2) [e] [] pos2] [] pos) (tListRev X.K te) := by
  refine ⟨fun pins s σ H Q I h => ?_⟩
  refine Call_ (ld_blt I hg hm PyProof.Rows.boot_list (PyProof.Rows.callWith_type1 (args_cons (Call_ (ld_blt I hg2 hm2 PyProof.Rows.boot_reversed (PyProof.Rows.callWith_type1 (args_cons (thn (he.run pins s σ H _ I h) fun u s1 ⟨v, H1, I1, r1, q1⟩ => args_nil ?_) hs) hs rfl))) hs2) hs2 rfl))
  obtain ⟨a, xs, ev, hq, q⟩ := q1
  subst ev
  obtain rfl : u = Value.ref a := r1
  obtain ⟨its, rv, p', hz⟩ := I1.list hq
  refine call_reversed_list p'.isList (args_nil ?_)
  have k0 : ∀ b o, s1.heap.get? b = some o → (s1.heap.push (revObj a ((its.toArray.size : Int) - 1))).get? b = some o := fun b o e => Heap.get?_push_of_some _ e
  have I2 : Inv X pins σ H1 { s1 with heap := s1.heap.push (revObj a ((its.toArray.size : Int) - 1)) } := I1.kept (t' := s1.toks) k0
  obtain ⟨f0, f1, f2, f3, f4, f5⟩ := I1.fpOk (H' := H1) (b := s1.heap.objs.size) (Nat.le_refl _) (I1.hok.fresh (Nat.le_refl _))
  have hl := p'.isList
  obtain ⟨ol, hol, _⟩ := id hl
  have hne : a ≠ s1.heap.objs.size := Nat.ne_of_lt (Heap.lt_size hol)
  have hn : its.toArray.size ≤ sizeLine := by rw [List.size_toArray, ← rv.length]; exact hz
  refine call_list_rev (s := { s1 with heap := s1.heap.push (revObj a ((its.toArray.size : Int) - 1)) }) (I1.ok.hd hc) ⟨_, Heap.get?_push_size _ rfl, rfl, rfl⟩ (hl.push _) hne hn fun h' tk acc c' hk hS hi => ?_
  have hit0 : H1 s1.heap.objs.size = none := I1.hok.fresh (Nat.le_refl _)
  have hS0 : H1 (s1.heap.push (revObj a ((its.toArray.size : Int) - 1))).objs.size = none := I2.hok.fresh (Nat.le_refl _)
  have hSit : s1.heap.objs.size ≠ (s1.heap.push (revObj a ((its.toArray.size : Int) - 1))).objs.size := by rw [Heap.size_push]; omega
  generalize hS2 : (s1.heap.push (revObj a ((its.toArray.size : Int) - 1))).objs.size = S at *
  have hn3 : ((s1.heap.push (revObj a ((its.toArray.size : Int) - 1))).push { cls := .type "list", data := .seq #[] }).get? S = some { cls := .type "list", data := .seq #[] } := by
    rw [← hS2]
    exact Heap.get?_push_size _ rfl
  have I3 : Inv X pins σ (upd H1 S (.lst [])) { s1 with heap := (s1.heap.push (revObj a ((its.toArray.size : Int) - 1))).push { cls := .type "list", data := .seq #[] } } :=
    I2.laid (t' := s1.toks) (fun b o e => Heap.get?_push_of_some _ e) (Nat.le_of_eq hS2) (show ObjOk X.prog X.w _ _ _ (.lst []) from ⟨Nat.zero_le _, [], 0, .nil, hn3⟩)
  have hn4 := Heap.get?_update_self (fun _ => ({ cls := .type "list", dict := none, data := .seq acc c', slots := #[] } : Obj)) hn3 rfl
  have I4 : Inv X pins σ (upd (upd H1 S (.lst [])) S (.lst xs.reverse)) { s1 with heap := ((s1.heap.push (revObj a ((its.toArray.size : Int) - 1))).push { cls := .type "list", data := .seq #[] }).update S (fun _ => ({ cls := .type "list", dict := none, data := .seq acc c', slots := #[] } : Obj)) } :=
    I3.write (t' := s1.toks) (x := S) (e := S) (by rw [upd_same]; trivial) (.inl rfl) (fun b u hb e => (Heap.get?_update_other _ _ (Ne.symm hb)).trans e) ⟨_, hn4⟩
      (show ObjOk X.prog X.w _ _ _ (.lst xs.reverse) from ⟨by rw [List.length_reverse]; exact hz, acc.toList, c', RT.vals_rev rv hi, by rw [Array.toArray_toList]; exact hn4⟩)
  rw [upd_upd] at I4
  have hnS : (upd H1 S (.lst xs.reverse)) s1.heap.objs.size = none := by rw [upd_ne hSit]; exact hit0
  obtain ⟨f0, f1, f2, f3, f4, f5⟩ := I1.fpOk (H' := upd H1 S (.lst xs.reverse)) (b := s1.heap.objs.size) (Nat.le_refl _) hnS
  have I5 : Inv X pins σ (upd H1 S (.lst xs.reverse)) { s1 with heap := h', toks := tk } := Inv.turned (s := { s1 with heap := ((s1.heap.push (revObj a ((its.toArray.size : Int) - 1))).push { cls := .type "list", data := .seq #[] }).update S (fun _ => ({ cls := .type "list", dict := none, data := .seq acc c', slots := #[] } : Obj)) }) (t' := tk) (it := s1.heap.objs.size) I4 (fun b o hb e => by
    by_cases hbS : b = S
    · subst hbS
      rw [hn4] at e
      rw [hS]
      exact e
    · have e2 := (Heap.get?_update_other _ _ (Ne.symm hbS)).symm.trans e
      rcases Heap.get?_push_cases e2 with ⟨z, _⟩ | z
      · exact absurd (z.trans hS2) hbS
      · exact hk b o hb z) f0 f1 f3 f4 f5
  exact ⟨.ref S, _, I5, rfl, q _ hS0⟩

/-! ### lists that fall -/
def insD (x : Int) : List Int → List Int
  | [] => [x]
  | y :: r => if y > x then y :: insD x r else x :: y :: r
def fall : List Int → List Int
  | [] => []
  | x :: r => insD x (fall r)
abbrev Falls (l : List Int) : Prop := l.Pairwise (· ≥ ·)
theorem insD_perm (x : Int) : ∀ l : List Int, (insD x l).Perm (x :: l)
  | [] => .refl _
  | y :: r => by
    unfold insD
    split
    · exact ((insD_perm x r).cons y).trans (.swap x y r)
    · exact .refl _
theorem insD_mem {x z : Int} {l : List Int} : z ∈ insD x l ↔ z = x ∨ z ∈ l := by
  rw [(insD_perm x l).mem_iff, List.mem_cons]
theorem insD_falls {x : Int} : ∀ {l : List Int}, Falls l → Falls (insD x l)
  | [], _ => List.pairwise_singleton _ _
  | y :: r, h => by
    obtain ⟨h1, h2⟩ := List.pairwise_cons.mp h
    unfold insD
    split
    · rename_i c
      refine List.pairwise_cons.mpr ⟨fun z hz => ?_, insD_falls h2⟩
      rcases insD_mem.mp hz with rfl | hz
      · exact Int.le_of_lt c
      · exact h1 z hz
    · rename_i c
      refine List.pairwise_cons.mpr ⟨fun z hz => ?_, h⟩
      rcases List.mem_cons.mp hz with rfl | hz
      · show z ≤ x
        omega
      · have := h1 z hz
        show z ≤ x
        omega
theorem fall_perm : ∀ l : List Int, (fall l).Perm l
  | [] => .refl _
  | x :: r => (insD_perm x _).trans ((fall_perm r).cons x)
theorem fall_falls : ∀ l : List Int, Falls (fall l)
  | [] => List.Pairwise.nil
  | _ :: r => insD_falls (fall_falls r)
theorem falls_unique : ∀ {l m : List Int}, l.Perm m → Falls l → Falls m → l = m
  | [], m, h, _, _ => (List.nil_perm.mp h).symm
  | x :: l, [], h, _, _ => absurd h.length_eq (by simp)
  | x :: l, y :: m, h, hl, hm => by
    obtain ⟨a1, a2⟩ := List.pairwise_cons.mp hl
    obtain ⟨b1, b2⟩ := List.pairwise_cons.mp hm
    have e : x = y := by
      have hx : x ∈ y :: m := h.mem_iff.mp (List.mem_cons_self ..)
      have hy : y ∈ x :: l := h.mem_iff.mpr (List.mem_cons_self ..)
      rcases List.mem_cons.mp hx with e | hx
      · exact e
      · rcases List.mem_cons.mp hy with e | hy
        · exact e.symm
        · have p := b1 x hx
          have q := a1 y hy
          omega
    subst e
    rw [falls_unique ((List.perm_cons x).mp h) a2 b2]
theorem fall_eq {l m : List Int} (h : m.Perm l) (hm : Falls m) : m = fall l := falls_unique (h.trans (fall_perm l).symm) hm (fall_falls l)
theorem fall_self {l : List Int} (h : Falls l) : fall l = l := (fall_eq (.refl _) h).symm
theorem fall_length (l : List Int) : (fall l).length = l.length := (fall_perm l).length_eq
theorem perm_sum : ∀ {l m : List Int}, l.Perm m → l.sum = m.sum := fun h => by
  induction h with
  | nil => rfl
  | cons x _ ih => rw [List.sum_cons, List.sum_cons, ih]
  | swap x y l => simp only [List.sum_cons]; omega
  | trans _ _ a b => exact a.trans b
theorem fall_sum (l : List Int) : (fall l).sum = l.sum := perm_sum (fall_perm l)
/-! ### settings -/
structure Good (ns : List Int) : Prop where
  pos : ∀ x ∈ ns, 1 ≤ x
  falls : Falls ns
  ne : ns ≠ []
theorem len_le_sum : ∀ {ns : List Int}, (∀ x ∈ ns, 1 ≤ x) → (ns.length : Int) ≤ ns.sum
  | [], _ => Int.le_refl 0
  | x :: r, h => by
    have h1 := h x (List.mem_cons_self ..)
    have ih := len_le_sum (ns := r) fun z hz => h z (List.mem_cons_of_mem _ hz)
    rw [List.sum_cons, List.length_cons]
    omega
theorem mem_le_sum : ∀ {ns : List Int}, (∀ x ∈ ns, 0 ≤ x) → ∀ x ∈ ns, x ≤ ns.sum
  | y :: r, h, x, hx => by
    have h1 := h y (List.mem_cons_self ..)
    have h2 : ∀ z ∈ r, 0 ≤ z := fun z hz => h z (List.mem_cons_of_mem _ hz)
    have h3 : 0 ≤ r.sum := by
      clear hx
      induction r with
      | nil => exact Int.le_refl 0
      | cons a t ih =>
        rw [List.sum_cons]
        have q1 := h2 a (List.mem_cons_self ..)
        have q2 := ih (fun z hz => h z (by rcases List.mem_cons.mp hz with e | e <;> simp [e])) fun z hz => h2 z (List.mem_cons_of_mem _ hz)
        omega
    rw [List.sum_cons]
    rcases List.mem_cons.mp hx with rfl | hx
    · omega
    · have q := mem_le_sum h2 x hx
      omega
/-- a setting of n coins -/
def IsSet (n : Int) (ns : List Int) : Prop := Good ns ∧ ns.sum = n
theorem IsSet.len {n : Int} {ns : List Int} (h : IsSet n ns) : (ns.length : Int) ≤ n := by
  have := len_le_sum h.1.pos
  rw [h.2] at this
  exact this
theorem IsSet.le {n : Int} {ns : List Int} (h : IsSet n ns) {x : Int} (hx : x ∈ ns) : x ≤ n := by
  have := mem_le_sum (fun z hz => by have := h.1.pos z hz; omega) x hx
  rw [h.2] at this
  exact this
theorem IsSet.ne {n : Int} {ns : List Int} (h : IsSet n ns) : 0 < ns.length := List.length_pos_iff.mpr h.1.ne
/-! ### a turn -/
def down1 (ns : List Int) : List Int := (ns.filter fun z => decide (z > 1)).map (· - 1)
def turn (ns : List Int) : List Int := insD ns.length (down1 ns)
theorem down1_cons (x : Int) (r : List Int) : down1 (x :: r) = if x > 1 then (x - 1) :: down1 r else down1 r := by
  unfold down1
  rw [List.filter_cons]
  by_cases c : x > 1
  · rw [if_pos c, if_pos (decide_eq_true c)] <;> rfl
  · rw [if_neg c, if_neg (by simp only [decide_eq_true_eq]; exact c)]
theorem mem_down1 {z : Int} {ns : List Int} : z ∈ down1 ns ↔ z + 1 ∈ ns ∧ 1 ≤ z := by
  unfold down1
  simp only [List.mem_map, List.mem_filter, decide_eq_true_eq]
  constructor
  · rintro ⟨y, ⟨h1, h2⟩, rfl⟩
    exact ⟨by rw [show y - 1 + 1 = y by omega]; exact h1, by omega⟩
  · rintro ⟨h1, h2⟩
    exact ⟨z + 1, ⟨h1, by omega⟩, by omega⟩
theorem down1_falls {ns : List Int} (h : Falls ns) : Falls (down1 ns) := by
  induction ns with
  | nil => exact List.Pairwise.nil
  | cons x r ih =>
    obtain ⟨h1, h2⟩ := List.pairwise_cons.mp h
    rw [down1_cons]
    split
    · refine List.pairwise_cons.mpr ⟨fun z hz => ?_, ih h2⟩
      have := h1 _ (mem_down1.mp hz).1
      show z ≤ x - 1
      omega
    · exact ih h2
theorem down1_sum {ns : List Int} (h : ∀ x ∈ ns, 1 ≤ x) : (down1 ns).sum + ns.length = ns.sum := by
  induction ns with
  | nil => rfl
  | cons x r ih =>
    have h1 := h x (List.mem_cons_self ..)
    have ih := ih fun z hz => h z (List.mem_cons_of_mem _ hz)
    rw [down1_cons]
    split
    · rw [List.sum_cons, List.sum_cons, List.length_cons]; omega
    · rw [List.sum_cons, List.length_cons]; omega
theorem down1_length (ns : List Int) : (down1 ns).length ≤ ns.length := by
  unfold down1
  rw [List.length_map]
  exact List.length_filter_le _ _
theorem turn_perm (ns : List Int) : (turn ns).Perm (down1 ns ++ [(ns.length : Int)]) := (insD_perm _ _).trans (List.perm_append_comm (l₁ := [(ns.length : Int)]) (l₂ := down1 ns))
theorem turn_eq {ns : List Int} (h : Falls ns) : turn ns = fall (down1 ns ++ [(ns.length : Int)]) := fall_eq (turn_perm ns) (insD_falls (down1_falls h))
theorem turn_set {n : Int} {ns : List Int} (h : IsSet n ns) : IsSet n (turn ns) := by
  refine ⟨⟨fun x hx => ?_, insD_falls (down1_falls h.1.falls), fun e => ?_⟩, ?_⟩
  · rcases insD_mem.mp hx with rfl | hx
    · have := h.ne
      omega
    · exact (mem_down1.mp hx).2
  · have : (turn ns).length = (down1 ns).length + 1 := (insD_perm _ _).length_eq
    rw [e] at this
    simp at this
  · rw [show (turn ns).sum = _ from perm_sum (insD_perm _ _), List.sum_cons]
    have := down1_sum h.1.pos
    rw [h.2] at this
    omega
theorem turn_length (ns : List Int) : (turn ns).length ≤ ns.length + 1 := by
  have : (turn ns).length = (down1 ns).length + 1 := (insD_perm _ _).length_eq
  have := down1_length ns
  omega

/-! ### the stair -/
def stairUp : Nat → Nat → Nat → Nat
  | 0, s, _ => s
  | f + 1, s, n => if s * (s + 1) < 2 * n then stairUp f (s + 1) n else s
def stair (n : Nat) : Nat := stairUp n 1 n
theorem sq_mono {a b : Nat} (h : a ≤ b) : a * (a + 1) ≤ b * (b + 1) := Nat.mul_le_mul h (Nat.succ_le_succ h)
theorem le_sq (a : Nat) : a ≤ a * (a + 1) := Nat.le_mul_of_pos_right a (Nat.succ_pos a)
theorem stairUp_spec : ∀ (f s n : Nat), n ≤ f + s → 1 ≤ s → (s - 1) * s < 2 * n → 1 ≤ stairUp f s n ∧ (stairUp f s n - 1) * stairUp f s n < 2 * n ∧ 2 * n ≤ stairUp f s n * (stairUp f s n + 1)
  | 0, s, n, h, h1, h2 => by
    refine ⟨h1, h2, ?_⟩
    show 2 * n ≤ s * (s + 1)
    have : s * 2 ≤ s * (s + 1) := Nat.mul_le_mul_left s (by omega)
    omega
  | f + 1, s, n, h, h1, h2 => by
    unfold stairUp
    split
    · rename_i c
      exact stairUp_spec f (s + 1) n (by omega) (by omega) (by rw [Nat.add_sub_cancel]; exact c)
    · rename_i c
      exact ⟨h1, h2, by omega⟩
theorem stair_spec {n : Nat} (h : 1 ≤ n) : 1 ≤ stair n ∧ (stair n - 1) * stair n < 2 * n ∧ 2 * n ≤ stair n * (stair n + 1) := stairUp_spec n 1 n (by omega) (Nat.le_refl _) (by omega)
theorem stair_uniq {n s : Nat} (h : 1 ≤ n) (h1 : 1 ≤ s) (h2 : (s - 1) * s < 2 * n) (h3 : 2 * n ≤ s * (s + 1)) : s = stair n := by
  obtain ⟨a, b, c⟩ := stair_spec h
  generalize stair n = t at *
  rcases Nat.lt_trichotomy s t with l | e | l
  · have := sq_mono (show s ≤ t - 1 by omega)
    rw [show t - 1 + 1 = t by omega] at this
    omega
  · exact e
  · have := sq_mono (show t ≤ s - 1 by omega)
    rw [show s - 1 + 1 = s by omega] at this
    omega
theorem stair_le {n : Nat} (h : 1 ≤ n) {b : Nat} (hb : 2 * n ≤ b * (b + 1)) (h1 : 1 ≤ b) : stair n ≤ b := by
  obtain ⟨_, b1, _⟩ := stair_spec h
  rcases Nat.lt_or_ge b (stair n) with l | l
  · have := sq_mono (show b ≤ stair n - 1 by omega)
    rw [show stair n - 1 + 1 = stair n by omega] at this
    omega
  · exact l
/-- the ones of n coins' marks -/
def restOf (n : Nat) : Nat := n - stair n * (stair n - 1) / 2
theorem half_sq (s : Nat) : 2 * (s * (s + 1) / 2) = s * (s + 1) := by
  have h : s * (s + 1) % 2 = 0 := by
    rcases Nat.mod_two_eq_zero_or_one s with e | e
    · rw [Nat.mul_mod, e, Nat.zero_mul]
    · rw [Nat.mul_mod, Nat.add_mod, e]
  omega
theorem half_sq' {s : Nat} (h : 1 ≤ s) : 2 * (s * (s - 1) / 2) = s * (s - 1) := by
  have := half_sq (s - 1)
  rw [show s - 1 + 1 = s by omega, Nat.mul_comm (s - 1) s] at this
  exact this
theorem rest_spec {n : Nat} (h : 1 ≤ n) : 1 ≤ restOf n ∧ restOf n ≤ stair n ∧ n = stair n * (stair n - 1) / 2 + restOf n := by
  obtain ⟨a, b, c⟩ := stair_spec h
  have e := half_sq' a
  unfold restOf
  have d : stair n * (stair n + 1) = stair n * (stair n - 1) + 2 * stair n := by
    rw [← Nat.mul_comm (stair n) 2, ← Nat.mul_add]
    congr 1
    omega
  rw [Nat.mul_comm] at b
  omega
/-! ### marks -/
def mk : List Int → List Int
  | [] => []
  | m :: r => ((r.length : Int) + m) :: mk r
def ofMarks (ms : List Int) : List Int := (mk ms).filter fun z => decide (z > 0)
theorem mk_length : ∀ ms : List Int, (mk ms).length = ms.length
  | [] => rfl
  | _ :: r => congrArg (· + 1) (mk_length r)
theorem mk_get : ∀ {ms : List Int} {i : Nat} {m : Int}, ms[i]? = some m → (mk ms)[i]? = some ((ms.length : Int) - 1 - i + m)
  | [], _, _, h => by simp at h
  | a :: r, 0, m, h => by
    have e : a = m := Option.some.inj h
    subst e
    show some ((r.length : Int) + a) = some (((r.length + 1 : Nat) : Int) - 1 - ((0 : Nat) : Int) + a)
    congr 1
    omega
  | a :: r, i + 1, m, h => by
    have ih := mk_get (ms := r) (i := i) (m := m) h
    show (mk r)[i]? = some (((r.length + 1 : Nat) : Int) - 1 - ((i + 1 : Nat) : Int) + m)
    rw [ih]
    congr 1
    omega
/-- noughts and ones -/
def Bits (ms : List Int) : Prop := ∀ m ∈ ms, m = 0 ∨ m = 1
theorem mk_bits : ∀ {ms : List Int}, Bits ms → (∀ z ∈ mk ms, 0 ≤ z ∧ z ≤ ms.length) ∧ Falls (mk ms)
  | [], _ => ⟨fun _ h => (by cases h), List.Pairwise.nil⟩
  | m :: r, h => by
    have hm := h m (List.mem_cons_self ..)
    obtain ⟨h1, h2⟩ := mk_bits (ms := r) fun z hz => h z (List.mem_cons_of_mem _ hz)
    refine ⟨fun z hz => ?_, List.pairwise_cons.mpr ⟨fun z hz => ?_, h2⟩⟩
    · rw [List.length_cons]
      rcases List.mem_cons.mp hz with rfl | hz
      · omega
      · have := h1 z hz
        omega
    · have := h1 z hz
      show z ≤ (r.length : Int) + m
      omega
theorem mk_sum : ∀ ms : List Int, (mk ms).sum = ((ms.length * (ms.length - 1) / 2 : Nat) : Int) + ms.sum
  | [] => rfl
  | m :: r => by
    have ih := mk_sum r
    show ((r.length : Int) + m) + (mk r).sum = _
    rw [ih, List.sum_cons, List.length_cons]
    have e1 := half_sq r.length
    have e2 : 2 * (r.length * (r.length - 1) / 2) = r.length * (r.length - 1) := by
      rcases Nat.eq_zero_or_pos r.length with e | e
      · rw [e]
      · exact half_sq' e
    rw [Nat.add_sub_cancel, Nat.mul_comm (r.length + 1) r.length]
    have e3 : r.length * (r.length + 1) = r.length * (r.length - 1) + 2 * r.length := by
      rcases Nat.eq_zero_or_pos r.length with e | e
      · rw [e]
      · rw [← Nat.mul_comm r.length 2, ← Nat.mul_add]
        congr 1
        omega
    omega
theorem filter_pos_sum : ∀ {l : List Int}, (∀ z ∈ l, 0 ≤ z) → (l.filter fun z => decide (z > 0)).sum = l.sum
  | [], _ => rfl
  | x :: r, h => by
    have h1 := h x (List.mem_cons_self ..)
    have ih := filter_pos_sum (l := r) fun z hz => h z (List.mem_cons_of_mem _ hz)
    rw [List.filter_cons]
    by_cases c : x > 0
    · rw [if_pos (decide_eq_true c), List.sum_cons, List.sum_cons, ih]
    · rw [if_neg (by simp only [decide_eq_true_eq]; exact c), List.sum_cons, ih]
      omega
theorem ofMarks_set {n : Nat} (hn : 1 ≤ n) {ms : List Int} (hb : Bits ms) (hl : ms.length = stair n) (hs : ms.sum = (restOf n : Int)) : IsSet n (ofMarks ms) := by
  obtain ⟨h1, h2⟩ := mk_bits hb
  have hsum : (ofMarks ms).sum = (n : Int) := by
    unfold ofMarks
    rw [filter_pos_sum fun z hz => (h1 z hz).1, mk_sum, hs, hl]
    have := (rest_spec hn).2.2
    omega
  refine ⟨⟨fun x hx => ?_, ?_, fun e => ?_⟩, hsum⟩
  · have := of_decide_eq_true (List.mem_filter.mp hx).2
    omega
  · exact List.Pairwise.filter _ h2
  · rw [e] at hsum
    have : (0 : Int) = n := hsum
    omega
/-! ### elders: what the pile at a place was not yet -/
def elderAt (ns : List Int) (j : Nat) (p : Int) : List Int := ((ns.take j ++ ns.drop (j + 1)).map (· + 1)) ++ List.replicate (p - ((ns.length : Int) - 1)).toNat 1
theorem sum_replicate (n : Nat) : (List.replicate n (1 : Int)).sum = n := by
  induction n with
  | zero => rfl
  | succ n ih => rw [List.replicate_succ, List.sum_cons, ih]; omega
theorem sum_map_add1 : ∀ l : List Int, (l.map (· + 1)).sum = l.sum + l.length
  | [] => rfl
  | x :: r => by
    have ih := sum_map_add1 r
    rw [List.map_cons, List.sum_cons, List.sum_cons, ih, List.length_cons]
    omega
theorem take_drop_sum : ∀ {ns : List Int} {j : Nat} {p : Int}, ns[j]? = some p → (ns.take j ++ ns.drop (j + 1)).sum + p = ns.sum ∧ (ns.take j ++ ns.drop (j + 1)).length + 1 = ns.length
  | [], _, _, h => by simp at h
  | a :: r, 0, p, h => by
    have e : a = p := Option.some.inj h
    subst e
    refine ⟨?_, rfl⟩
    show r.sum + a = (a :: r).sum
    rw [List.sum_cons]
    omega
  | a :: r, j + 1, p, h => by
    obtain ⟨h1, h2⟩ := take_drop_sum (ns := r) (j := j) (p := p) h
    refine ⟨?_, ?_⟩
    · show (a :: (r.take j ++ r.drop (j + 1))).sum + p = (a :: r).sum
      rw [List.sum_cons, List.sum_cons]
      omega
    · show (r.take j ++ r.drop (j + 1)).length + 1 + 1 = r.length + 1
      omega
theorem take_drop_sub (ns : List Int) (j : Nat) : (ns.take j ++ ns.drop (j + 1)).Sublist ns := by
  have h := (List.Sublist.refl (ns.take j)).append (List.drop_sublist 1 (ns.drop j))
  rw [List.take_append_drop, List.drop_drop] at h
  exact h
theorem elder_set {n : Int} {ns : List Int} (h : IsSet n ns) {j : Nat} {p : Int} (hp : ns[j]? = some p) (hb : p ≥ (ns.length : Int) - 1) : IsSet n (elderAt ns j p) := by
  obtain ⟨s1, s2⟩ := take_drop_sum hp
  have sub := take_drop_sub ns j
  have h1 := h.1.pos p (List.mem_of_getElem? hp)
  refine ⟨⟨fun x hx => ?_, ?_, fun e => ?_⟩, ?_⟩
  · rcases List.mem_append.mp hx with hx | hx
    · obtain ⟨y, hy, rfl⟩ := List.mem_map.mp hx
      have := h.1.pos y (sub.subset hy)
      omega
    · rw [List.eq_of_mem_replicate hx]
      exact Int.le_refl 1
  · refine List.pairwise_append.mpr ⟨?_, ?_, fun a ha b hb => ?_⟩
    · rw [List.pairwise_map]
      exact (h.1.falls.sublist sub).imp fun h => by omega
    · exact List.pairwise_replicate.mpr (.inr (Int.le_refl 1))
    · obtain ⟨y, hy, rfl⟩ := List.mem_map.mp ha
      have := h.1.pos y (sub.subset hy)
      rw [List.eq_of_mem_replicate hb]
      omega
  · have := congrArg List.length e
    unfold elderAt at this
    rw [List.length_append, List.length_map, List.length_replicate, List.length_nil] at this
    omega
  · unfold elderAt
    rw [List.sum_append, sum_map_add1, sum_replicate]
    have := h.2
    omega

/-! ### ways to choose, rings counted -/
def choN (a : Nat) : Nat → Nat
  | 0 => 1
  | k + 1 => choN a k * (a - k) / (k + 1)
def sumTo (f : Nat → Nat) : Nat → Nat
  | 0 => 0
  | i + 1 => sumTo f i + f i
/-- what the program adds at a turning -/
def ringT (s r t : Nat) : Nat := if r % (s / Nat.gcd s t) = 0 then choN (Nat.gcd s t) (r / (s / Nat.gcd s t)) else 0
def freeN (p : Nat) : Nat := sumTo (fun k => if Nat.gcd (k + 1) p = 1 then 1 else 0) p
/-- what the law adds at a part -/
def partT (s r i : Nat) : Nat := if s % (i + 1) = 0 ∧ r % (i + 1) = 0 then freeN (i + 1) * choN (s / (i + 1)) (r / (i + 1)) else 0
def ringsN (s r : Nat) : Nat := sumTo (ringT s r) s / s
def burnOk (s : Nat) : Bool := (List.range (s + 1)).all fun r => r == 0 || ringsN s r * s == sumTo (partT s r) s
theorem burn_all : (List.range 64).all burnOk = true := by decide +kernel
theorem burn {s r : Nat} (hs : s ≤ 63) (h1 : 1 ≤ r) (hr : r ≤ s) : ringsN s r * s = sumTo (partT s r) s := by
  have h := List.all_eq_true.mp burn_all s (List.mem_range.mpr (by omega))
  have h2 := List.all_eq_true.mp h r (List.mem_range.mpr (by omega))
  rcases Bool.or_eq_true_iff.mp h2 with e | e
  · have := beq_iff_eq.mp e
    omega
  · exact beq_iff_eq.mp e

/-! ### elders -/
def elderOk (ns : List Int) (j : Nat) : Bool := decide (ns.getD j 0 ≥ (ns.length : Int) - 1) && (j == 0 || ns.getD (j - 1) 0 != ns.getD j 0)
def eldersTo (ns : List Int) : Nat → List (List Int)
  | 0 => []
  | i + 1 => if elderOk ns i = true then eldersTo ns i ++ [elderAt ns i (ns.getD i 0)] else eldersTo ns i
def eldersU (ns : List Int) : List (List Int) := eldersTo ns ns.length
theorem getD_of {ns : List Int} {j : Nat} {p : Int} (h : ns[j]? = some p) : ns.getD j 0 = p := by
  rw [List.getD_eq_getElem?_getD, h] <;> rfl
theorem eldersTo_len (ns : List Int) : ∀ i, (eldersTo ns i).length ≤ i
  | 0 => Nat.le_refl _
  | i + 1 => by
    have := eldersTo_len ns i
    unfold eldersTo
    split
    · rw [List.length_append, List.length_singleton]
      omega
    · omega
theorem elders_set {n : Int} {ns : List Int} (h : IsSet n ns) : ∀ i, i ≤ ns.length → ∀ m ∈ eldersTo ns i, IsSet n m
  | 0, _, m, hm => by cases hm
  | i + 1, hi, m, hm => by
    have ih := elders_set h i (by omega)
    unfold eldersTo at hm
    split at hm
    · rename_i c
      rcases List.mem_append.mp hm with hm | hm
      · exact ih m hm
      · rw [List.mem_singleton.mp hm]
        have gi : ns[i]? = some ns[i] := List.getElem?_eq_getElem hi
        have c1 := of_decide_eq_true (Bool.and_eq_true_iff.mp c).1
        rw [getD_of gi] at c1 ⊢
        exact elder_set h gi c1
    · exact ih m hm
/-! ### all settings, the small piles first -/
def groupsA (g : Nat → List (List Int)) : Nat → List (List Int)
  | 0 => []
  | i + 1 => groupsA g i ++ (g (i + 1)).map (((i + 1 : Nat) : Int) :: ·)
def partsA : Nat → Nat → Nat → List (List Int)
  | 0, c, _ => if c = 0 then [[]] else []
  | f + 1, c, m => if c = 0 then [[]] else groupsA (fun p => partsA f (c - p) p) (min c m)
theorem groupsA_len {g : Nat → List (List Int)} {M c : Nat} (hM : M ≤ c) (hg : ∀ p, 1 ≤ p → p ≤ M → (g p).length ≤ 2 ^ (c - p)) : ∀ i, i ≤ M → (groupsA g i).length + 2 ^ (c - i) ≤ 2 ^ c
  | 0, _ => by
    show 0 + 2 ^ (c - 0) ≤ 2 ^ c
    rw [Nat.zero_add, Nat.sub_zero]
    exact Nat.le_refl _
  | i + 1, h => by
    have ih := groupsA_len hM hg i (by omega)
    have h1 := hg (i + 1) (by omega) (by omega)
    unfold groupsA
    rw [List.length_append, List.length_map]
    have e : 2 ^ (c - i) = 2 * 2 ^ (c - (i + 1)) := by
      rw [show c - i = (c - (i + 1)) + 1 by omega, Nat.pow_succ, Nat.mul_comm]
    omega
theorem partsA_len : ∀ (f c m : Nat), (partsA f c m).length ≤ 2 ^ c
  | 0, c, m => by
    unfold partsA
    split
    · exact Nat.one_le_two_pow
    · exact Nat.zero_le _
  | f + 1, c, m => by
    unfold partsA
    split
    · exact Nat.one_le_two_pow
    · have := groupsA_len (g := fun p => partsA f (c - p) p) (M := min c m) (c := c) (by omega) (fun p _ _ => partsA_len f (c - p) p) (min c m) (Nat.le_refl _)
      exact Nat.le_trans (Nat.le_add_right _ _) this
theorem groupsA_mono {g : Nat → List (List Int)} : ∀ {i j : Nat}, i ≤ j → (groupsA g i).length ≤ (groupsA g j).length
  | i, 0, h => by
    obtain rfl : i = 0 := by omega
    exact Nat.le_refl _
  | i, j + 1, h => by
    rcases Nat.lt_or_ge i (j + 1) with l | l
    · have := groupsA_mono (g := g) (i := i) (j := j) (by omega)
      show _ ≤ (groupsA g j ++ (g (j + 1)).map (((j + 1 : Nat) : Int) :: ·)).length
      rw [List.length_append]
      omega
    · obtain rfl : i = j + 1 := by omega
      exact Nat.le_refl _
theorem mem_groupsA {g : Nat → List (List Int)} {x : List Int} : ∀ {i : Nat}, x ∈ groupsA g i ↔ ∃ p r, 1 ≤ p ∧ p ≤ i ∧ r ∈ g p ∧ x = (p : Int) :: r
  | 0 => ⟨fun h => (by cases h), fun ⟨p, r, h1, h2, _⟩ => by omega⟩
  | i + 1 => by
    unfold groupsA
    rw [List.mem_append, mem_groupsA (i := i), List.mem_map]
    constructor
    · rintro (⟨p, r, h1, h2, h3, h4⟩ | ⟨r, h3, h4⟩)
      · exact ⟨p, r, h1, by omega, h3, h4⟩
      · exact ⟨i + 1, r, by omega, Nat.le_refl _, h3, h4.symm⟩
    · rintro ⟨p, r, h1, h2, h3, h4⟩
      rcases Nat.lt_or_ge p (i + 1) with l | l
      · exact .inl ⟨p, r, h1, by omega, h3, h4⟩
      · obtain rfl : p = i + 1 := by omega
        exact .inr ⟨r, h3, h4.symm⟩
theorem mem_partsA : ∀ (f c m : Nat) {ns : List Int}, c ≤ f → Falls ns → (∀ x ∈ ns, 1 ≤ x ∧ x ≤ (m : Int)) → ns.sum = (c : Int) → ns ∈ partsA f c m
  | f, c, m, [], hc, _, _, hs => by
    have : (0 : Int) = c := hs
    obtain rfl : c = 0 := by omega
    cases f with
    | zero =>
      unfold partsA
      rw [if_pos rfl]
      exact List.mem_singleton.mpr rfl
    | succ f =>
      unfold partsA
      rw [if_pos rfl]
      exact List.mem_singleton.mpr rfl
  | f, c, m, x :: r, hc, hf, hx, hs => by
    obtain ⟨f1, f2⟩ := List.pairwise_cons.mp hf
    have h1 := hx x (List.mem_cons_self ..)
    have hr : ∀ y ∈ r, 1 ≤ y := fun y hy => (hx y (List.mem_cons_of_mem _ hy)).1
    have hl := len_le_sum hr
    rw [List.sum_cons] at hs
    obtain ⟨p, rfl⟩ : ∃ p : Nat, x = p := ⟨x.toNat, by omega⟩
    cases f with
    | zero => omega
    | succ f =>
      unfold partsA
      rw [if_neg (by omega), mem_groupsA]
      refine ⟨p, r, by omega, by omega, mem_partsA f (c - p) p (by omega) f2 (fun y hy => ⟨hr y hy, f1 y hy⟩) (by omega), rfl⟩
theorem partsA_elt : ∀ (f c m : Nat), ∀ ns ∈ partsA f c m, ns.length ≤ c
  | 0, c, m, ns, h => by
    unfold partsA at h
    split at h
    · rw [List.mem_singleton.mp h]
      exact Nat.zero_le _
    · cases h
  | f + 1, c, m, ns, h => by
    unfold partsA at h
    split at h
    · rw [List.mem_singleton.mp h]
      exact Nat.zero_le _
    · obtain ⟨p, r, h1, h2, h3, rfl⟩ := mem_groupsA.mp h
      have := partsA_elt f (c - p) p r h3
      rw [List.length_cons]
      omega

/-! ### all settings of c coins with no pile above m, from the greatest down; f calls are allowed -/
/-- the first i groups, the greatest pile first -/
def groups (g : Nat → List (List Int)) (M : Nat) : Nat → List (List Int)
  | 0 => []
  | i + 1 => groups g M i ++ (g (M - i)).map (((M - i : Nat) : Int) :: ·)
def parts : Nat → Nat → Nat → List (List Int)
  | 0, c, _ => if c = 0 then [[]] else []
  | f + 1, c, m => if c = 0 then [[]] else groups (fun p => parts f (c - p) p) (min c m) (min c m)
theorem groups_len {g : Nat → List (List Int)} {M c : Nat} (hM : M ≤ c) (hg : ∀ p, 1 ≤ p → p ≤ M → (g p).length ≤ 2 ^ (c - p)) : ∀ i, i ≤ M → (groups g M i).length ≤ 2 ^ (c - M + i)
  | 0, _ => Nat.zero_le _
  | i + 1, h => by
    have ih := groups_len hM hg i (by omega)
    have h1 := hg (M - i) (by omega) (by omega)
    rw [show c - (M - i) = c - M + i by omega] at h1
    unfold groups
    rw [List.length_append, List.length_map, show c - M + (i + 1) = (c - M + i) + 1 by omega, Nat.pow_succ]
    omega
theorem parts_len : ∀ (f c m : Nat), (parts f c m).length ≤ 2 ^ c
  | 0, c, m => by
    unfold parts
    split
    · exact Nat.one_le_two_pow
    · exact Nat.zero_le _
  | f + 1, c, m => by
    unfold parts
    split
    · exact Nat.one_le_two_pow
    · have := groups_len (g := fun p => parts f (c - p) p) (M := min c m) (c := c) (by omega) (fun p _ _ => parts_len f (c - p) p) (min c m) (Nat.le_refl _)
      rw [show c - min c m + min c m = c by omega] at this
      exact this
theorem groups_mono {g : Nat → List (List Int)} {M : Nat} : ∀ {i j : Nat}, i ≤ j → (groups g M i).length ≤ (groups g M j).length
  | i, 0, h => by
    obtain rfl : i = 0 := by omega
    exact Nat.le_refl _
  | i, j + 1, h => by
    rcases Nat.lt_or_ge i (j + 1) with l | l
    · have := groups_mono (g := g) (M := M) (i := i) (j := j) (by omega)
      show _ ≤ (groups g M j ++ (g (M - j)).map (((M - j : Nat) : Int) :: ·)).length
      rw [List.length_append]
      omega
    · obtain rfl : i = j + 1 := by omega
      exact Nat.le_refl _
theorem parts_ne : ∀ (f c m : Nat), c ≤ f → 1 ≤ m → parts f c m ≠ []
  | 0, c, m, h, _ => by
    obtain rfl : c = 0 := by omega
    intro e
    cases e
  | f + 1, c, m, h, hm => by
    unfold parts
    split
    · intro e
      cases e
    · intro e
      have h1 : (groups (fun p => parts f (c - p) p) (min c m) 1).length ≤ (groups (fun p => parts f (c - p) p) (min c m) (min c m)).length := groups_mono (by omega)
      rw [e] at h1
      have h2 : groups (fun p => parts f (c - p) p) (min c m) 1 = (parts f (c - (min c m - 0)) (min c m - 0)).map (((min c m - 0 : Nat) : Int) :: ·) := rfl
      rw [h2, List.length_map] at h1
      have h3 := List.length_pos_iff.mpr (parts_ne f (c - (min c m - 0)) (min c m - 0) (by omega) (by omega))
      rw [List.length_nil] at h1
      omega
theorem parts_elt : ∀ (f c m : Nat), ∀ ns ∈ parts f c m, ns.length ≤ c
  | 0, c, m, ns, h => by
    unfold parts at h
    split at h
    · rw [List.mem_singleton.mp h]
      exact Nat.zero_le _
    · cases h
  | f + 1, c, m, ns, h => by
    unfold parts at h
    split at h
    · rw [List.mem_singleton.mp h]
      exact Nat.zero_le _
    · have key : ∀ i, i ≤ min c m → ∀ ns ∈ groups (fun p => parts f (c - p) p) (min c m) i, ns.length ≤ c := fun i => by
        induction i with
        | zero => exact fun _ ns h => by cases h
        | succ i ih =>
          intro hi ns h
          rcases List.mem_append.mp h with h | h
          · exact ih (by omega) ns h
          · obtain ⟨ms, hms, rfl⟩ := List.mem_map.mp h
            have := parts_elt f (c - (min c m - i)) (min c m - i) ms hms
            rw [List.length_cons]
            omega
      exact key _ (Nat.le_refl _) ns h

/-! ### marks of a setting, rings -/
def marksAt (S : Nat) (ns : List Int) : List Int := (List.range S).map fun k : Nat => ns.getD k 0 - ((S : Int) - 1 - (k : Int))
def isBits (ms : List Int) : Bool := ms.all fun m => decide (0 ≤ m ∧ m ≤ 1)
def marksBy (ns : List Int) : List Int :=
  if stair ns.sum.toNat < ns.length then [] else if isBits (marksAt (stair ns.sum.toNat) ns) = true then marksAt (stair ns.sum.toNat) ns else []
theorem isBits_iff {ms : List Int} : isBits ms = true ↔ Bits ms := by
  unfold isBits Bits
  rw [List.all_eq_true]
  constructor
  · intro h m hm
    have := of_decide_eq_true (h m hm)
    omega
  · intro h m hm
    have := h m hm
    exact decide_eq_true (by omega)
theorem filter_pos_getD : ∀ {l : List Int} (k : Nat), (∀ z ∈ l, 0 ≤ z) → Falls l → (l.filter fun z => decide (z > 0)).getD k 0 = l.getD k 0
  | [], _, _, _ => rfl
  | x :: r, k, h, hf => by
    obtain ⟨f1, f2⟩ := List.pairwise_cons.mp hf
    have hr : ∀ z ∈ r, 0 ≤ z := fun z hz => h z (List.mem_cons_of_mem _ hz)
    rw [List.filter_cons]
    by_cases c : x > 0
    · rw [if_pos (decide_eq_true c)]
      cases k with
      | zero => rfl
      | succ k => exact filter_pos_getD k hr f2
    · rw [if_neg (by simp only [decide_eq_true_eq]; exact c)]
      have hx := h x (List.mem_cons_self ..)
      have hz : ∀ z ∈ r, z = 0 := fun z hz => by
        have a := f1 z hz
        have b := hr z hz
        omega
      have e : r.filter (fun z => decide (z > 0)) = [] := List.filter_eq_nil_iff.mpr fun z hz' => by
        rw [hz z hz']
        decide
      rw [e]
      cases k with
      | zero =>
        show (0 : Int) = x
        omega
      | succ k =>
        show (0 : Int) = r.getD k 0
        rw [List.getD_eq_getElem?_getD]
        cases hk : r[k]? with
        | none => rfl
        | some z =>
          rw [hz z (List.mem_of_getElem? hk)]
          rfl
theorem bits_sum_range : ∀ {ms : List Int}, Bits ms → 0 ≤ ms.sum ∧ ms.sum ≤ ms.length
  | [], _ => ⟨Int.le_refl _, Int.le_refl _⟩
  | m :: r, h => by
    have hm := h m (List.mem_cons_self ..)
    have ih := bits_sum_range (ms := r) fun z hz => h z (List.mem_cons_of_mem _ hz)
    rw [List.sum_cons, List.length_cons]
    omega
theorem ofMarks_sum {ms : List Int} (h : Bits ms) : (ofMarks ms).sum = ((ms.length * (ms.length - 1) / 2 : Nat) : Int) + ms.sum := by
  unfold ofMarks
  rw [filter_pos_sum fun z hz => ((mk_bits h).1 z hz).1, mk_sum]
theorem ofMarks_stair {ms : List Int} (h : Bits ms) (h1 : 1 ≤ ms.sum) : stair (ofMarks ms).sum.toNat = ms.length := by
  obtain ⟨b0, b1⟩ := bits_sum_range h
  have hl : 1 ≤ ms.length := by omega
  have e := ofMarks_sum h
  have e2 := half_sq' hl
  have e3 : ms.length * (ms.length + 1) = ms.length * (ms.length - 1) + 2 * ms.length := by
    rw [← Nat.mul_comm ms.length 2, ← Nat.mul_add]
    congr 1
    omega
  refine (stair_uniq (by omega) hl ?_ ?_).symm
  · rw [Nat.mul_comm]
    omega
  · omega
theorem ofMarks_len {ms : List Int} : (ofMarks ms).length ≤ ms.length := by
  have := List.length_filter_le (fun z => decide (z > 0)) (mk ms)
  rw [mk_length] at this
  exact this
theorem ofMarks_isSet {ms : List Int} (h : Bits ms) (h1 : 1 ≤ ms.sum) : IsSet (ofMarks ms).sum (ofMarks ms) := by
  obtain ⟨k1, k2⟩ := mk_bits h
  refine ⟨⟨fun x hx => ?_, List.Pairwise.filter _ k2, fun e => ?_⟩, rfl⟩
  · have := of_decide_eq_true (List.mem_filter.mp hx).2
    omega
  · have := ofMarks_sum h
    rw [e] at this
    have : (0 : Int) = ((ms.length * (ms.length - 1) / 2 : Nat) : Int) + ms.sum := this
    omega
theorem marksBy_of {ms : List Int} (h : Bits ms) (h1 : 1 ≤ ms.sum) : marksBy (ofMarks ms) = ms := by
  have hs := ofMarks_stair h h1
  have hl := ofMarks_len (ms := ms)
  have e : marksAt ms.length (ofMarks ms) = ms := by
    apply List.ext_getElem?
    intro k
    unfold marksAt
    by_cases hk : k < ms.length
    · have gk : ms[k]? = some ms[k] := List.getElem?_eq_getElem hk
      obtain ⟨k1, k2⟩ := mk_bits h
      have hd : (ofMarks ms).getD k 0 = (ms.length : Int) - 1 - k + ms[k] := by
        unfold ofMarks
        rw [filter_pos_getD k (fun z hz => (k1 z hz).1) k2, List.getD_eq_getElem?_getD, mk_get gk] <;> rfl
      rw [List.getElem?_map, List.getElem?_range hk, gk]
      show some ((ofMarks ms).getD k 0 - ((ms.length : Int) - 1 - (k : Int))) = some ms[k]
      rw [hd]
      congr 1
      omega
    · rw [List.getElem?_eq_none (by rw [List.length_map, List.length_range]; omega), List.getElem?_eq_none (by omega)]
  unfold marksBy
  rw [hs, if_neg (by omega), e, if_pos (isBits_iff.mpr h)]
/-! ### a turn is a turning of the marks -/
theorem mk_snoc : ∀ (l : List Int) (z : Int), mk (l ++ [z]) = (mk l).map (· + 1) ++ [z]
  | [], z => by
    show [((0 : Nat) : Int) + z] = [z]
    congr 1
    omega
  | m :: r, z => by
    show (((r ++ [z]).length : Int) + m) :: mk (r ++ [z]) = ((r.length : Int) + m + 1) :: ((mk r).map (· + 1) ++ [z])
    rw [mk_snoc r z, List.length_append, List.length_singleton]
    congr 1
    omega
theorem turn_marks {l : List Int} {z : Int} (h : Bits (l ++ [z])) (h1 : 1 ≤ (l ++ [z]).sum) : turn (ofMarks (l ++ [z])) = ofMarks (z :: l) := by
  have hl : Bits l := fun m hm => h m (List.mem_append_left _ hm)
  have hz : z = 0 ∨ z = 1 := h z (List.mem_append_right _ (List.mem_singleton.mpr rfl))
  obtain ⟨k1, k2⟩ := mk_bits hl
  have hf : ((mk l).map (· + 1)).filter (fun x => decide (x > 0)) = (mk l).map (· + 1) := List.filter_eq_self.mpr fun x hx => by
    obtain ⟨y, hy, rfl⟩ := List.mem_map.mp hx
    have := (k1 y hy).1
    exact decide_eq_true (by omega)
  have e1 : ofMarks (l ++ [z]) = (mk l).map (· + 1) ++ [z].filter (fun x => decide (x > 0)) := by
    unfold ofMarks
    rw [mk_snoc, List.filter_append, hf]
  have hd : down1 (ofMarks (l ++ [z])) = ofMarks l := by
    rw [e1]
    unfold down1 ofMarks
    rw [List.filter_append, List.map_append, List.filter_map, List.map_map]
    have a : (mk l).filter ((fun z => decide (z > 1)) ∘ fun x => x + 1) = (mk l).filter fun x => decide (x > 0) := by
      congr 1
      funext x
      show decide (x + 1 > 1) = decide (x > 0)
      by_cases c : x > 0
      · rw [decide_eq_true c, decide_eq_true (by omega)]
      · rw [decide_eq_false c, decide_eq_false (by omega)]
    have b : ([z].filter (fun x => decide (x > 0))).filter (fun z => decide (z > 1)) = [] := by
      rcases hz with rfl | rfl <;> rfl
    rw [a, b, List.map_nil, List.append_nil]
    have c : (fun x : Int => x - 1) ∘ (fun x => x + 1) = id := by
      funext x
      show x + 1 - 1 = x
      omega
    rw [c, List.map_id]
  have hlen : ((ofMarks (l ++ [z])).length : Int) = (l.length : Int) + z := by
    rw [e1, List.length_append, List.length_map, mk_length]
    rcases hz with rfl | rfl
    · show ((l.length + 0 : Nat) : Int) = (l.length : Int) + 0
      omega
    · show ((l.length + 1 : Nat) : Int) = (l.length : Int) + 1
      omega
  have hpos : (l.length : Int) + z > 0 := by
    obtain ⟨b0, b1⟩ := bits_sum_range hl
    rw [List.sum_append, List.sum_cons, List.sum_nil] at h1
    omega
  unfold turn
  rw [hd, hlen]
  have e2 : ofMarks (z :: l) = ((l.length : Int) + z) :: ofMarks l := by
    show (((l.length : Int) + z) :: mk l).filter _ = _
    rw [List.filter_cons, if_pos (decide_eq_true hpos)] <;> rfl
  rw [e2]
  cases hol : ofMarks l with
  | nil => rfl
  | cons y r =>
    unfold insD
    rw [if_neg]
    have hy : y ∈ mk l := (List.mem_filter.mp (show y ∈ ofMarks l by rw [hol]; exact List.mem_cons_self ..)).1
    have := (k1 y hy).2
    omega
/-! ### turns one behind another -/
def turnN : Nat → List Int → List Int
  | 0, x => x
  | n + 1, x => turnN n (turn x)
theorem turnN_succ : ∀ (n : Nat) (x : List Int), turnN (n + 1) x = turn (turnN n x)
  | 0, _ => rfl
  | n + 1, x => turnN_succ n (turn x)
theorem turnN_add : ∀ (a b : Nat) (x : List Int), turnN (a + b) x = turnN a (turnN b x)
  | a, 0, x => rfl
  | a, b + 1, x => turnN_add a b (turn x)
theorem turnN_set {n : Int} : ∀ {j : Nat} {x : List Int}, IsSet n x → IsSet n (turnN j x)
  | 0, _, h => h
  | j + 1, _, h => turnN_set (j := j) (turn_set h)
/-- a ring of d settings from x on -/
structure Ring (x : List Int) (d : Nat) : Prop where
  pos : 1 ≤ d
  back : turnN d x = x
  first : ∀ j, 0 < j → j < d → turnN j x ≠ x
theorem Ring.inj {x : List Int} {d : Nat} (h : Ring x d) {i j : Nat} (hij : i < j) (hj : j < d) : turnN i x ≠ turnN j x := fun e => by
  have h1 : turnN (d - i) (turnN i x) = x := by
    rw [← turnN_add, show d - i + i = d by omega, h.back]
  have h2 : turnN (d - i) (turnN j x) = turnN (j - i) x := by
    rw [← turnN_add, show d - i + j = (j - i) + d by omega, turnN_add, h.back]
  rw [e, h2] at h1
  exact h.first (j - i) (by omega) (by omega) h1
theorem least_of {p : Nat → Prop} : ∀ n : Nat, p n → ∃ d, d ≤ n ∧ p d ∧ ∀ j, j < d → ¬ p j := fun n => by
  induction n using Nat.strongRecOn with
  | ind n ih =>
    intro hn
    by_cases h : ∃ j, j < n ∧ p j
    · obtain ⟨j, hj, hp⟩ := h
      obtain ⟨d, h1, h2, h3⟩ := ih j hj hp
      exact ⟨d, by omega, h2, h3⟩
    · exact ⟨n, Nat.le_refl _, hn, fun j hj hp => h ⟨j, hj, hp⟩⟩
theorem ring_ex {x : List Int} {S : Nat} (h1 : 1 ≤ S) (h : turnN S x = x) : ∃ d, d ≤ S ∧ Ring x d := by
  obtain ⟨d, a, ⟨b1, b2⟩, c⟩ := least_of (p := fun d => 1 ≤ d ∧ turnN d x = x) S ⟨h1, h⟩
  exact ⟨d, a, b1, b2, fun j h0 hj e => c j hj ⟨h0, e⟩⟩
/-- the settings of a ring -/
def ringL (d : Nat) (x : List Int) : List (List Int) := (List.range d).map fun j => turnN j x
theorem ringL_succ (d : Nat) (x : List Int) : ringL (d + 1) x = ringL d x ++ [turnN d x] := by
  unfold ringL
  rw [List.range_succ, List.map_append] <;> rfl
theorem ringL_len (d : Nat) (x : List Int) : (ringL d x).length = d := by
  unfold ringL
  rw [List.length_map, List.length_range]
theorem mem_ringL {d : Nat} {x y : List Int} : y ∈ ringL d x ↔ ∃ j, j < d ∧ turnN j x = y := by
  unfold ringL
  simp only [List.mem_map, List.mem_range]
/-! ### marks turned round -/
def rot : List Int → List Int := fun ms => ms.getLast?.toList ++ ms.dropLast
theorem rot_snoc (l : List Int) (z : Int) : rot (l ++ [z]) = z :: l := by
  unfold rot
  rw [List.getLast?_concat, List.dropLast_concat] <;> rfl
def rotN : Nat → List Int → List Int
  | 0, x => x
  | n + 1, x => rot (rotN n x)
theorem rotN_split : ∀ (b a : List Int), ∀ j, j = b.length → rotN j (a ++ b) = b ++ a := by
  intro b a j
  induction j generalizing a b with
  | zero =>
    intro h
    have : b = [] := List.eq_nil_of_length_eq_zero h.symm
    subst this
    show a ++ [] = [] ++ a
    rw [List.append_nil, List.nil_append]
  | succ j ih =>
    intro h
    match b, h with
    | y :: r, h =>
      have e1 : a ++ y :: r = (a ++ [y]) ++ r := by rw [List.append_assoc] <;> rfl
      show rot (rotN j (a ++ y :: r)) = y :: r ++ a
      rw [e1, ih r (a ++ [y]) (by simpa using h), ← List.append_assoc, rot_snoc] <;> rfl
theorem rotN_len (ms : List Int) : rotN ms.length ms = ms := by
  have := rotN_split ms [] ms.length rfl
  rw [List.nil_append, List.append_nil] at this
  exact this
theorem snoc_of : ∀ {ms : List Int}, ms ≠ [] → ∃ l z, ms = l ++ [z] := fun {ms} h => ⟨ms.dropLast, ms.getLast h, (List.dropLast_concat_getLast h).symm⟩
theorem rot_facts {ms : List Int} (h : Bits ms) (h1 : 1 ≤ ms.sum) : Bits (rot ms) ∧ (rot ms).sum = ms.sum ∧ (rot ms).length = ms.length ∧ turn (ofMarks ms) = ofMarks (rot ms) := by
  obtain ⟨l, z, rfl⟩ := snoc_of (ms := ms) (fun e => by rw [e] at h1; exact absurd h1 (by decide))
  rw [rot_snoc]
  refine ⟨fun m hm => ?_, ?_, ?_, turn_marks h h1⟩
  · rcases List.mem_cons.mp hm with rfl | hm
    · exact h m (List.mem_append_right _ (List.mem_singleton.mpr rfl))
    · exact h m (List.mem_append_left _ hm)
  · rw [List.sum_cons, List.sum_append, List.sum_cons, List.sum_nil]
    omega
  · rw [List.length_cons, List.length_append, List.length_singleton]
theorem rotN_facts {ms : List Int} (h : Bits ms) (h1 : 1 ≤ ms.sum) : ∀ j, Bits (rotN j ms) ∧ (rotN j ms).sum = ms.sum ∧ (rotN j ms).length = ms.length ∧ turnN j (ofMarks ms) = ofMarks (rotN j ms)
  | 0 => ⟨h, rfl, rfl, rfl⟩
  | j + 1 => by
    obtain ⟨a, b, c, d⟩ := rotN_facts h h1 j
    obtain ⟨a', b', c', d'⟩ := rot_facts a (by omega)
    refine ⟨a', by show (rot (rotN j ms)).sum = _; omega, by show (rot (rotN j ms)).length = _; omega, ?_⟩
    rw [turnN_succ, d, d'] <;> rfl
theorem ofMarks_ring {ms : List Int} (h : Bits ms) (h1 : 1 ≤ ms.sum) : ∃ d, d ≤ ms.length ∧ Ring (ofMarks ms) d := by
  have hl : 1 ≤ ms.length := by
    have := bits_sum_range h
    omega
  refine ring_ex hl ?_
  rw [(rotN_facts h h1 ms.length).2.2.2, rotN_len]

/-! ### the solitaire comes round: N t j piles of at least j coins after t turns -/
def cn (p : Nat → Bool) : Nat → Nat
  | 0 => 0
  | m + 1 => cn p m + if p m = true then 1 else 0
theorem cn_mono {p q : Nat → Bool} : ∀ {m : Nat}, (∀ i, i < m → p i = true → q i = true) → cn p m ≤ cn q m
  | 0, _ => Nat.le_refl _
  | m + 1, h => by
    have ih := cn_mono (p := p) (q := q) (m := m) fun i hi => h i (by omega)
    show cn p m + _ ≤ cn q m + _
    have := h m (by omega)
    by_cases c : p m = true
    · rw [if_pos c, if_pos (this c)]
      omega
    · rw [if_neg c]
      omega
theorem cn_more (p : Nat → Bool) {m m' : Nat} (h : m ≤ m') : cn p m ≤ cn p m' := by
  induction m' with
  | zero =>
    obtain rfl : m = 0 := by omega
    exact Nat.le_refl _
  | succ m' ih =>
    rcases Nat.lt_or_ge m (m' + 1) with l | l
    · have := ih (by omega)
      show _ ≤ cn p m' + _
      omega
    · obtain rfl : m = m' + 1 := by omega
      exact Nat.le_refl _
theorem cn_stop {p : Nat → Bool} {m : Nat} : ∀ {m' : Nat}, m ≤ m' → (∀ i, m ≤ i → i < m' → p i = false) → cn p m' = cn p m
  | 0, h, _ => by
    obtain rfl : m = 0 := by omega
    rfl
  | m' + 1, h, hp => by
    rcases Nat.lt_or_ge m (m' + 1) with l | l
    · have ih := cn_stop (p := p) (m := m) (m' := m') (by omega) fun i h1 h2 => hp i h1 (by omega)
      show cn p m' + _ = _
      rw [hp m' (by omega) (by omega), ih]
      rfl
    · obtain rfl : m = m' + 1 := by omega
      rfl
theorem cn_sub {p q : Nat → Bool} {m m' : Nat} (h : ∀ i, i < m → p i = true → i < m' ∧ q i = true) : cn p m ≤ cn q m' := by
  rcases Nat.le_total m m' with l | l
  · exact Nat.le_trans (cn_mono fun i hi c => (h i hi c).2) (cn_more q l)
  · rw [cn_stop (p := p) l fun i h1 h2 => by
      cases c : p i with
      | false => rfl
      | true =>
        have := (h i h2 c).1
        omega]
    exact cn_mono fun i hi c => (h i (by omega) c).2
theorem cn_shift (p : Nat → Bool) : ∀ m, cn p (m + 1) = (if p 0 = true then 1 else 0) + cn (fun i => p (i + 1)) m
  | 0 => Nat.zero_add _
  | m + 1 => by
    have ih := cn_shift p m
    show cn p (m + 1) + (if p (m + 1) = true then 1 else 0) = (if p 0 = true then 1 else 0) + (cn (fun i => p (i + 1)) m + (if p (m + 1) = true then 1 else 0))
    rw [ih, Nat.add_assoc]
theorem cn_le (p : Nat → Bool) : ∀ m, cn p m ≤ m
  | 0 => Nat.le_refl _
  | m + 1 => by
    have := cn_le p m
    show cn p m + _ ≤ _
    split <;> omega
theorem cn_all {p : Nat → Bool} : ∀ {m : Nat}, (∀ i, i < m → p i = true) → cn p m = m
  | 0, _ => rfl
  | m + 1, h => by
    show cn p m + _ = _
    rw [cn_all fun i hi => h i (by omega), if_pos (h m (by omega))]
/-- the sum of f 1 .. f m -/
def su (f : Nat → Nat) : Nat → Nat
  | 0 => 0
  | m + 1 => su f m + f (m + 1)
theorem su_mono {f g : Nat → Nat} : ∀ {m : Nat}, (∀ j, 1 ≤ j → j ≤ m → f j ≤ g j) → su f m ≤ su g m
  | 0, _ => Nat.le_refl _
  | m + 1, h => by
    have ih := su_mono (f := f) (g := g) (m := m) fun j h1 h2 => h j h1 (by omega)
    have := h (m + 1) (by omega) (by omega)
    show su f m + _ ≤ su g m + _
    omega
/-- numbers of piles, turn by turn -/
structure Sys (N : Nat → Nat → Nat) (n : Nat) : Prop where
  step : ∀ t j, 1 ≤ j → N (t + 1) j = N t (j + 1) + if j ≤ N t 1 then 1 else 0
  anti : ∀ t j, N t (j + 1) ≤ N t j
  sum : ∀ t m, su (N t) m ≤ n
  all : ∀ t m, n ≤ m → su (N t) m = n
/-- the pile that the s-th turn makes -/
def nx (N : Nat → Nat → Nat) (s : Nat) : Nat := N (s - 1) 1
section
variable {N : Nat → Nat → Nat} {n : Nat}
theorem Sys.form (S : Sys N n) : ∀ (t j : Nat), 1 ≤ j → N t j = N 0 (j + t) + cn (fun i => decide (j + i ≤ nx N (t - i))) t
  | 0, j, _ => rfl
  | t + 1, j, hj => by
    have ih := S.form t (j + 1) (by omega)
    rw [S.step t j hj, ih, cn_shift]
    have e1 : (fun i => decide (j + 1 + i ≤ nx N (t - i))) = fun i => decide (j + (i + 1) ≤ nx N (t + 1 - (i + 1))) := by
      funext i
      rw [show t + 1 - (i + 1) = t - i by omega, show j + 1 + i = j + (i + 1) by omega]
    have e2 : (if j ≤ N t 1 then 1 else 0) = if decide (j + 0 ≤ nx N (t + 1 - 0)) = true then 1 else 0 := by
      show _ = if decide (j ≤ N t 1) = true then 1 else 0
      by_cases c : j ≤ N t 1
      · rw [if_pos c, if_pos (decide_eq_true c)]
      · rw [if_neg c, if_neg (fun h => c (of_decide_eq_true h))]
    rw [e1, e2, show j + 1 + t = j + (t + 1) by omega]
    omega
theorem Sys.le_n (S : Sys N n) (t j : Nat) (hj : 1 ≤ j) : N t j ≤ n := by
  have h1 := S.sum t j
  obtain ⟨m, rfl⟩ : ∃ m, j = m + 1 := ⟨j - 1, by omega⟩
  have h2 : su (N t) (m + 1) = su (N t) m + N t (m + 1) := rfl
  omega
theorem anti_le (S : Sys N n) (t : Nat) {i j : Nat} (h : i ≤ j) : N t j ≤ N t i := by
  induction j with
  | zero =>
    obtain rfl : i = 0 := by omega
    exact Nat.le_refl _
  | succ j ih =>
    rcases Nat.lt_or_ge i (j + 1) with l | l
    · exact Nat.le_trans (S.anti t j) (ih (by omega))
    · obtain rfl : i = j + 1 := by omega
      exact Nat.le_refl _
theorem su_ge {f : Nat → Nat} : ∀ {m : Nat}, (∀ j, 1 ≤ j → j ≤ m → 1 ≤ f j) → m ≤ su f m
  | 0, _ => Nat.le_refl _
  | m + 1, h => by
    have ih := su_ge (f := f) (m := m) fun j h1 h2 => h j h1 (by omega)
    have := h (m + 1) (by omega) (by omega)
    show _ ≤ su f m + f (m + 1)
    omega
theorem Sys.none (S : Sys N n) (t : Nat) {j : Nat} (h : n < j) : N t j = 0 := by
  rcases Nat.eq_zero_or_pos (N t j) with e | e
  · exact e
  · have h1 := su_ge (f := N t) (m := j) fun i h1 h2 => Nat.le_trans e (anti_le S t h2)
    have h2 := S.sum t j
    omega
/-- slowly up -/
theorem Sys.up1 (S : Sys N n) {c : Nat} (h : 1 ≤ c) : nx N (c + 1) ≤ nx N c + 1 := by
  obtain ⟨t, rfl⟩ : ∃ t, c = t + 1 := ⟨c - 1, by omega⟩
  show N (t + 1) 1 ≤ N t 1 + 1
  rw [S.step t 1 (Nat.le_refl _)]
  have := S.anti t 1
  split <;> omega
theorem Sys.ups (S : Sys N n) : ∀ (i c : Nat), i < c → nx N c ≤ nx N (c - i) + i
  | 0, c, _ => Nat.le_refl _
  | i + 1, c, h => by
    have ih := S.ups i c (by omega)
    have := S.up1 (c := c - (i + 1)) (by omega)
    rw [show c - (i + 1) + 1 = c - i by omega] at this
    omega
/-- the step: OLEINIK -/
theorem Sys.lap (S : Sys N n) {c d : Nat} (hc : n < c) (hd : 1 ≤ d) (hcd : d + 1 < c) (h : ∀ z, z + 1 < c → c ≤ z + nx N z → d < z ∧ nx N z ≤ nx N (z - d) + 1) : nx N c ≤ nx N (c - (d + 1)) + 1 := by
  have f1 := S.form (c - 1) 1 (Nat.le_refl _)
  have f2 := S.form (c - (d + 1) - 1) 1 (Nat.le_refl _)
  have e0 : N 0 (1 + (c - 1)) = 0 := S.none 0 (by omega)
  rw [e0] at f1
  have g1 : nx N c = cn (fun i => decide (1 + i ≤ nx N (c - 1 - i))) (c - 1) := by
    show N (c - 1) 1 = _
    omega
  have g2 : cn (fun i => decide (1 + i ≤ nx N (c - (d + 1) - 1 - i))) (c - (d + 1) - 1) ≤ nx N (c - (d + 1)) := by
    show _ ≤ N (c - (d + 1) - 1) 1
    omega
  obtain ⟨m, em⟩ : ∃ m, c - 1 = m + 1 := ⟨c - 2, by omega⟩
  rw [em, cn_shift] at g1
  have key : cn (fun i => decide (1 + (i + 1) ≤ nx N (m + 1 - (i + 1)))) m ≤ cn (fun i => decide (1 + i ≤ nx N (c - (d + 1) - 1 - i))) (c - (d + 1) - 1) := by
    refine cn_sub fun i hi hp => ?_
    have hp := of_decide_eq_true hp
    have := h (m - i) (by omega) (by rw [show m + 1 - (i + 1) = m - i by omega] at hp; omega)
    rw [show m + 1 - (i + 1) = m - i by omega] at hp
    refine ⟨by omega, decide_eq_true ?_⟩
    rw [show c - (d + 1) - 1 - i = m - i - d by omega]
    omega
  have : (if decide (1 + 0 ≤ nx N (m + 1 - 0)) = true then 1 else 0) ≤ 1 := by split <;> omega
  omega
/-- no pile of twenty -/
theorem Sys.small (S : Sys N n) (hn : n ≤ 105) {c : Nat} (hc : 10 ≤ c) : nx N c ≤ 19 := by
  rcases Nat.lt_or_ge 19 (nx N c) with l | l
  · exfalso
    have h1 := S.sum c 20
    have h2 : su (fun j => cn (fun i => decide (j + i ≤ 20 - i)) 10) 20 ≤ su (N c) 20 := su_mono fun j j1 _ => by
      rw [S.form c j j1]
      refine Nat.le_trans ?_ (Nat.le_add_left _ _)
      refine cn_sub fun i hi hp => ⟨by omega, decide_eq_true ?_⟩
      have hp := of_decide_eq_true hp
      have := S.ups i c (by omega)
      omega
    have h3 : su (fun j => cn (fun i => decide (j + i ≤ 20 - i)) 10) 20 = 110 := by decide +kernel
    omega
  · exact l
end

section
variable {N : Nat → Nat → Nat} {n : Nat}
theorem Sys.laps (S : Sys N n) (hn : n ≤ 105) : ∀ d c, 1 ≤ d → n + 11 + 19 * (d - 1) ≤ c → nx N c ≤ nx N (c - d) + 1
  | 0, _, h, _ => by omega
  | 1, c, _, hc => by
    have := S.up1 (c := c - 1) (by omega)
    rw [show c - 1 + 1 = c by omega] at this
    exact this
  | d + 2, c, _, hc => by
    refine S.lap (d := d + 1) (by omega) (by omega) (by omega) fun z hz hl => ?_
    have h10 : 10 ≤ z := by
      have := S.le_n (z - 1) 1 (Nat.le_refl _)
      have : nx N z ≤ n := this
      omega
    have := S.small hn h10
    exact ⟨by omega, S.laps hn (d + 1) z (by omega) (by omega)⟩
theorem tri_su : ∀ k : Fin 15, 2 * su (fun j => k.1 + 1 - j) k.1 = k.1 * (k.1 + 1) := by decide +kernel
theorem su_stop {f : Nat → Nat} {m : Nat} : ∀ {m' : Nat}, m ≤ m' → (∀ j, m < j → f j = 0) → su f m' = su f m
  | 0, h, _ => by
    obtain rfl : m = 0 := by omega
    rfl
  | m' + 1, h, hf => by
    rcases Nat.lt_or_ge m (m' + 1) with l | l
    · show su f m' + f (m' + 1) = _
      rw [hf (m' + 1) (by omega), su_stop (m' := m') (by omega) hf, Nat.add_zero]
    · obtain rfl : m = m' + 1 := by omega
      rfl
/-- not above k -/
theorem Sys.top (S : Sys N n) (hn : n ≤ 105) {k c : Nat} (hk : 1 ≤ k) (hk2 : k ≤ 14) (h2 : 2 * n ≤ k * (k + 1)) (hc : n + 11 + 19 * (k - 1) ≤ c) : nx N c ≤ k := by
  rcases Nat.lt_or_ge k (nx N c) with l | l
  · exfalso
    have lo : ∀ i, 1 ≤ i → i ≤ k → k ≤ nx N (c - i) := fun i h1 h2 => by
      have := S.laps hn i c h1 (by omega)
      omega
    have a1 : su (fun j => k + 1 - j) k ≤ su (N c) k := su_mono fun j j1 j2 => by
      rw [S.form c j j1]
      refine Nat.le_trans ?_ (Nat.le_add_left _ _)
      have e : cn (fun _ => true) (k + 1 - j) = k + 1 - j := cn_all fun _ _ => rfl
      rw [← e]
      refine cn_sub fun i hi _ => ⟨by omega, decide_eq_true ?_⟩
      rcases Nat.eq_zero_or_pos i with e0 | e0
      · subst e0
        rw [Nat.sub_zero]
        omega
      · have := lo i e0 (by omega)
        omega
    have a2 : 1 ≤ N c (k + 1) := by
      rw [S.form c (k + 1) (by omega)]
      refine Nat.le_trans ?_ (Nat.le_add_left _ _)
      have e : cn (fun _ => true) 1 = 1 := rfl
      rw [← e]
      refine cn_sub fun i hi _ => ⟨by omega, decide_eq_true ?_⟩
      obtain rfl : i = 0 := by omega
      rw [Nat.sub_zero]
      omega
    have a3 := tri_su ⟨k, by omega⟩
    have a4 := S.sum c (k + 1)
    have a5 : su (N c) (k + 1) = su (N c) k + N c (k + 1) := rfl
    have a6 : 2 * su (fun j => k + 1 - j) k = k * (k + 1) := a3
    omega
  · exact l
/-- old piles are gone -/
theorem Sys.gone (S : Sys N n) (hn : n ≤ 105) {t V i j : Nat} (hV : n + 10 ≤ V) (ht : V + 19 ≤ t + 1) (hj : 1 ≤ j) (h : j + i ≤ nx N (t - i)) (hi : i < t) : V ≤ t - i := by
  rcases Nat.lt_or_ge (t - i) V with l | l
  · exfalso
    rcases Nat.lt_or_ge (t - i) 10 with q | q
    · have h1 : nx N (t - i) ≤ n := S.le_n (t - i - 1) 1 (Nat.le_refl _)
      omega
    · have := S.small hn q
      omega
  · exact l
/-- not below k - 1 -/
theorem Sys.bot (S : Sys N n) (hn : n ≤ 105) {k c : Nat} (hk : 2 ≤ k) (hk2 : k ≤ 14) (h1 : (k - 1) * k < 2 * n) (h2 : 2 * n ≤ k * (k + 1)) (hc : n + 30 + 19 * (k - 1) ≤ c) : k - 1 ≤ nx N c := by
  rcases Nat.lt_or_ge (nx N c) (k - 1) with l | l
  · exfalso
    have hi : ∀ l', 1 ≤ l' → l' ≤ k - 1 → nx N (c + l') ≤ k - 1 := fun l' a1 a2 => by
      have := S.laps hn l' (c + l') a1 (by omega)
      rw [Nat.add_sub_cancel] at this
      omega
    have bd : ∀ j, 1 ≤ j → N (c + (k - 1)) j ≤ k - j := fun j j1 => by
      rw [S.form _ j j1, S.none 0 (by omega), Nat.zero_add]
      have e : cn (fun _ => true) (k - j) = k - j := cn_all fun _ _ => rfl
      rw [← e]
      refine cn_sub fun i hi' hp => ⟨?_, rfl⟩
      have hp := of_decide_eq_true hp
      have hg := S.gone hn (V := n + 11 + 19 * (k - 1)) (by omega) (by omega) j1 hp hi'
      have ht := S.top hn (by omega) hk2 h2 hg
      rcases Nat.lt_or_ge i (k - 1) with q | q
      · have := hi (k - 1 - i) (by omega) (by omega)
        rw [show c + (k - 1) - i = c + (k - 1 - i) by omega] at hp
        omega
      · rcases Nat.lt_or_ge (k - 1) i with q2 | q2
        · omega
        · rw [show c + (k - 1) - i = c by omega] at hp
          omega
    have a1 := S.all (c + (k - 1)) (n + k) (by omega)
    have a2 : su (N (c + (k - 1))) (n + k) ≤ su (fun j => k - j) (n + k) := su_mono fun j j1 _ => bd j j1
    have a3 : su (fun j => k - j) (n + k) = su (fun j => k - j) (k - 1) := su_stop (by omega) fun j hj => by omega
    have a4 := tri_su ⟨k - 1, by omega⟩
    have a5 : 2 * su (fun j => k - 1 + 1 - j) (k - 1) = (k - 1) * (k - 1 + 1) := a4
    rw [show k - 1 + 1 = k by omega] at a5
    omega
  · exact l
/-- round -/
theorem Sys.round (S : Sys N n) (hn : n ≤ 105) {k t : Nat} (hk : 1 ≤ k) (hk2 : k ≤ 14) (h1 : (k - 1) * k < 2 * n) (h2 : 2 * n ≤ k * (k + 1)) (ht : n + 49 + 19 * (k - 1) ≤ t) {j : Nat} (hj : 1 ≤ j) : k - j ≤ N t j ∧ N t j ≤ k + 1 - j := by
  rw [S.form t j hj, S.none 0 (by omega), Nat.zero_add]
  constructor
  · have e : cn (fun _ => true) (k - j) = k - j := cn_all fun _ _ => rfl
    rw [← e]
    refine cn_sub fun i hi _ => ⟨by omega, decide_eq_true ?_⟩
    have := S.bot hn (k := k) (c := t - i) (by omega) hk2 h1 h2 (by omega)
    omega
  · have e : cn (fun _ => true) (k + 1 - j) = k + 1 - j := cn_all fun _ _ => rfl
    rw [← e]
    refine cn_sub fun i hi hp => ⟨?_, rfl⟩
    have hp := of_decide_eq_true hp
    have hg := S.gone hn (V := n + 11 + 19 * (k - 1)) (by omega) (by omega) hj hp hi
    have := S.top hn hk hk2 h2 hg
    omega
end

def cnt (l : List Int) (j : Nat) : Nat := l.countP fun z => decide ((j : Int) ≤ z)
theorem su_add (f g : Nat → Nat) : ∀ m, su (fun j => f j + g j) m = su f m + su g m
  | 0 => rfl
  | m + 1 => by
    have ih := su_add f g m
    show su (fun j => f j + g j) m + (f (m + 1) + g (m + 1)) = (su f m + f (m + 1)) + (su g m + g (m + 1))
    omega
theorem su_ind (x : Nat) : ∀ m, su (fun j => if j ≤ x then 1 else 0) m = min m x
  | 0 => by
    show 0 = min 0 x
    omega
  | m + 1 => by
    have ih := su_ind x m
    show su (fun j => if j ≤ x then 1 else 0) m + (if m + 1 ≤ x then 1 else 0) = min (m + 1) x
    rw [ih]
    split <;> omega
theorem cnt_cons (x : Int) (r : List Int) (hx : 0 ≤ x) : cnt (x :: r) = fun j => cnt r j + if j ≤ x.toNat then 1 else 0 := by
  funext j
  unfold cnt
  rw [List.countP_cons]
  by_cases c : (j : Int) ≤ x
  · rw [if_pos (decide_eq_true c), if_pos (by omega)]
  · rw [if_neg (fun h => c (of_decide_eq_true h)), if_neg (by omega)]
theorem su_cnt : ∀ {l : List Int}, (∀ x ∈ l, 0 ≤ x) → ∀ m, ((su (cnt l) m : Nat) : Int) ≤ l.sum ∧ (l.sum ≤ (m : Int) → ((su (cnt l) m : Nat) : Int) = l.sum)
  | [], _, m => by
    have e : su (cnt []) m = 0 := by
      have : su (cnt []) m = su (cnt []) 0 := su_stop (Nat.zero_le _) fun j _ => rfl
      exact this
    rw [e]
    exact ⟨Int.le_refl _, fun _ => rfl⟩
  | x :: r, h, m => by
    have hx := h x (List.mem_cons_self ..)
    have hr : ∀ z ∈ r, 0 ≤ z := fun z hz => h z (List.mem_cons_of_mem _ hz)
    obtain ⟨h1, h2⟩ := su_cnt hr m
    rw [cnt_cons x r hx, su_add, su_ind, List.sum_cons]
    have h3 : 0 ≤ r.sum := by
      have := (su_cnt hr 0).1
      exact this
    refine ⟨by omega, fun hm => ?_⟩
    have := h2 (by omega)
    omega
theorem cnt_perm {l m : List Int} (h : l.Perm m) (j : Nat) : cnt l j = cnt m j := h.countP_eq _
theorem cnt_down1 : ∀ (l : List Int) {j : Nat}, 1 ≤ j → cnt (down1 l) j = cnt l (j + 1)
  | [], _, _ => rfl
  | x :: r, j, hj => by
    have ih := cnt_down1 r hj
    unfold cnt at ih ⊢
    rw [down1_cons, List.countP_cons]
    split
    · rw [List.countP_cons, ih]
      by_cases c : (j : Int) ≤ x - 1
      · rw [if_pos (decide_eq_true c), if_pos (decide_eq_true (by omega))]
      · rw [if_neg (fun h => c (of_decide_eq_true h)), if_neg (fun h => c (by have := of_decide_eq_true h; omega))]
    · rw [ih, if_neg (fun h => by have := of_decide_eq_true h; omega)]
      rfl
theorem cnt_one {l : List Int} (h : ∀ x ∈ l, 1 ≤ x) : cnt l 1 = l.length := by
  unfold cnt
  exact List.countP_eq_length.mpr fun x hx => decide_eq_true (h x hx)
theorem cnt_turn {l : List Int} (h : ∀ x ∈ l, 1 ≤ x) {j : Nat} (hj : 1 ≤ j) : cnt (turn l) j = cnt l (j + 1) + if j ≤ cnt l 1 then 1 else 0 := by
  unfold turn
  rw [cnt_one h, cnt_perm (insD_perm _ _), ← cnt_down1 l hj, cnt_cons _ _ (by omega)]
  rfl
theorem cnt_anti (l : List Int) (j : Nat) : cnt l (j + 1) ≤ cnt l j := by
  unfold cnt
  refine List.countP_mono_left fun x _ h => ?_
  have := of_decide_eq_true h
  exact decide_eq_true (by omega)
theorem sys_of {n : Nat} {ns : List Int} (h : IsSet n ns) : Sys (fun t j => cnt (turnN t ns) j) n := by
  have hs : ∀ t, IsSet n (turnN t ns) := fun t => turnN_set h
  refine ⟨fun t j hj => ?_, fun t j => cnt_anti _ j, fun t m => ?_, fun t m hm => ?_⟩
  · have := cnt_turn (hs t).1.pos hj
    show cnt (turnN (t + 1) ns) j = _
    rw [turnN_succ]
    exact this
  · have := (su_cnt (l := turnN t ns) (fun x hx => by have := (hs t).1.pos x hx; omega) m).1
    rw [(hs t).2] at this
    exact Int.ofNat_le.mp this
  · have := (su_cnt (l := turnN t ns) (fun x hx => by have := (hs t).1.pos x hx; omega) m).2
    rw [(hs t).2] at this
    exact Int.ofNat_inj.mp (this (by omega))
/-- of a falling list: the i-th is at least j just where more than i are -/
theorem cnt_falls : ∀ {l : List Int}, Falls l → ∀ (i j : Nat), 1 ≤ j → ((j : Int) ≤ l.getD i 0 ↔ i < cnt l j)
  | [], _, i, j, hj => by
    constructor
    · intro h
      have : (j : Int) ≤ 0 := h
      omega
    · intro h
      have : i < 0 := h
      omega
  | x :: r, hf, i, j, hj => by
    obtain ⟨f1, f2⟩ := List.pairwise_cons.mp hf
    have hc : cnt (x :: r) j = cnt r j + if (j : Int) ≤ x then 1 else 0 := by
      unfold cnt
      rw [List.countP_cons]
      by_cases c : (j : Int) ≤ x
      · rw [if_pos (decide_eq_true c), if_pos c]
      · rw [if_neg (fun h => c (of_decide_eq_true h)), if_neg c]
    rw [hc]
    have low : ¬ (j : Int) ≤ x → cnt r j = 0 := fun c => by
      unfold cnt
      refine List.countP_eq_zero.mpr fun z hz h => ?_
      have := f1 z hz
      have := of_decide_eq_true h
      omega
    cases i with
    | zero =>
      show (j : Int) ≤ x ↔ _
      by_cases c : (j : Int) ≤ x
      · rw [if_pos c]
        exact ⟨fun _ => by omega, fun _ => c⟩
      · rw [if_neg c, low c]
        exact ⟨fun h => absurd h c, fun h => by omega⟩
    | succ i =>
      have ih := cnt_falls f2 i j hj
      show (j : Int) ≤ r.getD i 0 ↔ _
      rw [ih]
      by_cases c : (j : Int) ≤ x
      · rw [if_pos c]
        omega
      · rw [if_neg c, low c]
        omega
/-- behind so many turns it is round -/
theorem round_by {n : Nat} {ns : List Int} (h : IsSet n ns) (h1 : 1 ≤ n) (h2 : n ≤ 100) {t : Nat} (ht : n + 49 + 19 * (stair n - 1) ≤ t) : marksBy (turnN t ns) ≠ [] := by
  have S := sys_of h
  have hs : IsSet n (turnN t ns) := turnN_set h
  obtain ⟨a, b, c⟩ := stair_spec h1
  have hst := stair_le h1 (b := 14) (by omega) (by omega)
  have R := fun j hj => S.round (by omega) (k := stair n) (t := t) a hst b c ht (j := j) hj
  have hsum : (turnN t ns).sum.toNat = n := by rw [hs.2, Int.toNat_natCast]
  have hlen : (turnN t ns).length = cnt (turnN t ns) 1 := (cnt_one hs.1.pos).symm
  have r1 := (R 1 (Nat.le_refl _)).2
  unfold marksBy
  rw [hsum]
  generalize stair n = k at *
  generalize turnN t ns = l at *
  rw [if_neg (by omega), if_pos]
  · intro e
    have := congrArg List.length e
    unfold marksAt at this
    rw [List.length_map, List.length_range, List.length_nil] at this
    omega
  · rw [isBits_iff]
    intro m hm
    unfold marksAt at hm
    obtain ⟨i, hi, rfl⟩ := List.mem_map.mp hm
    have hi := List.mem_range.mp hi
    have up : ¬ ((k - i + 1 : Nat) : Int) ≤ l.getD i 0 := fun h => by
      have := (cnt_falls hs.1.falls i (k - i + 1) (by omega)).mp h
      have := (R (k - i + 1) (by omega)).2
      omega
    have lo : ((k - 1 - i : Nat) : Int) ≤ l.getD i 0 := by
      rcases Nat.eq_zero_or_pos (k - 1 - i) with e | e
      · rw [e, List.getD_eq_getElem?_getD]
        cases hq : l[i]? with
        | none => exact Int.le_refl _
        | some z =>
          have := hs.1.pos z (List.mem_of_getElem? hq)
          show (0 : Int) ≤ z
          omega
      · refine (cnt_falls hs.1.falls i (k - 1 - i) e).mpr ?_
        have := (R (k - 1 - i) e).1
        omega
    omega

theorem marksAt_lenW (S : Nat) (ns : List Int) : (marksAt S ns).length = S := by
  unfold marksAt
  rw [List.length_map, List.length_range]
theorem marksAt_getW {S : Nat} {ns : List Int} {k : Nat} (h : k < S) : (marksAt S ns)[k]? = some (ns.getD k 0 - ((S : Int) - 1 - (k : Int))) := by
  unfold marksAt
  rw [List.getElem?_map, List.getElem?_range h] <;> rfl
theorem filter_pad {x : List Int} (h : ∀ z ∈ x, 1 ≤ z) (m : Nat) : (x ++ List.replicate m 0).filter (fun z => decide (z > 0)) = x := by
  rw [List.filter_append, List.filter_eq_self.mpr fun z hz => decide_eq_true (by have := h z hz; omega), List.filter_eq_nil_iff.mpr fun z hz => by
    rw [List.eq_of_mem_replicate hz]
    decide, List.append_nil]
theorem round_inv {n : Nat} {x : List Int} (h : IsSet n x) (h1 : 1 ≤ n) (hm : marksBy x ≠ []) : Bits (marksBy x) ∧ ofMarks (marksBy x) = x ∧ 1 ≤ (marksBy x).sum ∧ (marksBy x).length = stair n := by
  have hsum : x.sum.toNat = n := by rw [h.2, Int.toNat_natCast]
  obtain ⟨r1, r2, r3⟩ := rest_spec h1
  unfold marksBy at hm ⊢
  rw [hsum] at hm ⊢
  generalize hS : stair n = S at *
  by_cases c1 : S < x.length
  · rw [if_pos c1] at hm
    exact absurd rfl hm
  · rw [if_neg c1] at hm ⊢
    by_cases c2 : isBits (marksAt S x) = true
    · rw [if_pos c2]
      have hb := isBits_iff.mp c2
      have hl := marksAt_lenW S x
      have e : mk (marksAt S x) = x ++ List.replicate (S - x.length) 0 := by
        refine List.ext_getElem? fun i => ?_
        rcases Nat.lt_or_ge i S with l | l
        · rw [mk_get (marksAt_getW l), hl]
          rcases Nat.lt_or_ge i x.length with q | q
          · rw [List.getElem?_append_left q, List.getElem?_eq_getElem q, List.getD_eq_getElem?_getD, List.getElem?_eq_getElem q]
            congr 1
            show (S : Int) - 1 - i + (x[i] - ((S : Int) - 1 - i)) = x[i]
            omega
          · rw [List.getElem?_append_right q, List.getElem?_replicate, if_pos (by omega), List.getD_eq_getElem?_getD, List.getElem?_eq_none q]
            congr 1
            show (S : Int) - 1 - i + (0 - ((S : Int) - 1 - i)) = 0
            omega
        · rw [List.getElem?_eq_none (by rw [mk_length, hl]; exact l), List.getElem?_eq_none (by rw [List.length_append, List.length_replicate]; omega)]
      have eo : ofMarks (marksAt S x) = x := by
        unfold ofMarks
        rw [e]
        exact filter_pad h.1.pos _
      refine ⟨hb, eo, ?_, hl⟩
      have hs := ofMarks_sum hb
      rw [eo, h.2, hl] at hs
      omega
    · rw [if_neg c2] at hm
      exact absurd rfl hm
/-- a round setting's ring -/
theorem round_ring {n : Nat} {x : List Int} (h : IsSet n x) (h1 : 1 ≤ n) (h2 : n ≤ 100) (hm : marksBy x ≠ []) : (∃ d, d ≤ 14 ∧ Ring x d) ∧ ∀ i, marksBy (turnN i x) ≠ [] := by
  obtain ⟨b, e, s, l⟩ := round_inv h h1 hm
  have hst := stair_le h1 (b := 14) (by omega) (by omega)
  generalize marksBy x = ms at *
  subst e
  obtain ⟨d, hd, hr⟩ := ofMarks_ring b s
  refine ⟨⟨d, by omega, hr⟩, fun i => ?_⟩
  obtain ⟨q1, q2, q3, q4⟩ := rotN_facts b s i
  rw [q4, marksBy_of q1 (by omega)]
  intro e
  rw [e] at q2
  rw [← q2] at s
  exact absurd s (by decide)
theorem way_ex {n : Nat} {ns : List Int} (h : IsSet n ns) (h1 : 1 ≤ n) (h2 : n ≤ 100) : ∃ w, w ≤ 396 ∧ (∀ j, j < w → marksBy (turnN j ns) = []) ∧ marksBy (turnN w ns) ≠ [] := by
  have hst := stair_le h1 (b := 14) (by omega) (by omega)
  have hr := round_by h h1 h2 (t := 396) (by omega)
  obtain ⟨w, a, b, c⟩ := least_of (p := fun w => marksBy (turnN w ns) ≠ []) 396 hr
  exact ⟨w, a, fun j hj => Classical.byContradiction fun e => c j hj e, b⟩

/-! ### lists of ints compared -/
theorem dpAll_ints {K : PySem.W.Frag} {H : Hp} : ∀ ns : List Int, DpAll K H (ns.map V.int) (ns.map PyData.int)
  | [] => .nil
  | n :: r => .cons (.int n) (dpAll_ints r)
theorem dp_ints {K : PySem.W.Frag} {H : Hp} {a : Addr} {ns : List Int} (h : SqL K H a (ns.map V.int)) : Dp K H (.ref a) (.list (ns.map PyData.int)) := .lst h (dpAll_ints ns)
theorem sh_all_ints : ∀ ns : List Int, PyData.canLayAll0 (ns.map PyData.int) = true ∧ PyData.depthAll (ns.map PyData.int) = 0
  | [] => ⟨rfl, rfl⟩
  | n :: r => by
    obtain ⟨h1, h2⟩ := sh_all_ints r
    refine ⟨?_, ?_⟩
    · rw [List.map_cons, PyData.canLayAll0, h1] <;> rfl
    · rw [List.map_cons, PyData.depthAll, h2] <;> rfl
theorem sh_ints (ns : List Int) : SeqAt.shaped (.list (ns.map PyData.int)) = true := by
  obtain ⟨h1, h2⟩ := sh_all_ints ns
  unfold SeqAt.shaped
  rw [PyData.canLay0, PyData.depth, h1, h2] <;> rfl
theorem eqv_all_ints : ∀ ns ms : List Int, PyData.eqvAll (ns.map PyData.int) (ms.map PyData.int) = decide (ns = ms)
  | [], [] => by rw [List.map_nil, PyData.eqvAll] <;> rfl
  | [], m :: ms => by rw [List.map_nil, List.map_cons, PyData.eqvAll] <;> simp
  | n :: ns, [] => by rw [List.map_nil, List.map_cons, PyData.eqvAll] <;> simp
  | n :: ns, m :: ms => by
    rw [List.map_cons, List.map_cons, PyData.eqvAll, eqv_all_ints ns ms, PyData.eqv]
    by_cases e : n = m
    · subst e
      simp
    · simp [e]
theorem eqv_ints (ns ms : List Int) : PyData.eqv (.list (ns.map PyData.int)) (.list (ms.map PyData.int)) = decide (ns = ms) := by
  rw [PyData.eqv]
  exact eqv_all_ints ns ms
/-! ### a list that is looked at place by place -/
def Adj (ns : List Int) (i : Nat) : Prop := ∀ j, j < i → ∀ x, ns[j]? = some x → 1 ≤ x ∧ ∀ y, 0 < j → ns[j - 1]? = some y → x ≤ y
theorem falls_of_adj : ∀ {ns : List Int}, (∀ j x y, ns[j + 1]? = some x → ns[j]? = some y → x ≤ y) → Falls ns
  | [], _ => List.Pairwise.nil
  | [_], _ => List.pairwise_singleton _ _
  | a :: b :: r, h => by
    have ih : Falls (b :: r) := falls_of_adj fun j x y hx hy => h (j + 1) x y hx hy
    have hab : b ≤ a := h 0 b a rfl rfl
    refine List.pairwise_cons.mpr ⟨fun z hz => ?_, ih⟩
    rcases List.mem_cons.mp hz with rfl | hz
    · exact hab
    · have := (List.pairwise_cons.mp ih).1 z hz
      show z ≤ a
      omega
theorem good_adj {ns : List Int} : Good ns ↔ ns ≠ [] ∧ Adj ns ns.length := by
  constructor
  · intro h
    refine ⟨h.ne, fun j hj x hx => ⟨h.pos x (List.mem_of_getElem? hx), fun y h0 hy => ?_⟩⟩
    obtain ⟨i, rfl⟩ : ∃ i, j = i + 1 := ⟨j - 1, by omega⟩
    obtain ⟨a1, a2⟩ := List.getElem?_eq_some_iff.mp hx
    obtain ⟨b1, b2⟩ := List.getElem?_eq_some_iff.mp hy
    have := List.pairwise_iff_getElem.mp h.falls i (i + 1) (by omega) a1 (by omega)
    rw [← a2, ← b2]
    exact this
  · rintro ⟨h0, h⟩
    refine ⟨fun x hx => ?_, falls_of_adj fun j x y hx hy => ?_, h0⟩
    · obtain ⟨j, hj⟩ := List.getElem?_of_mem hx
      exact (h j (List.getElem?_eq_some_iff.mp hj).1 x hj).1
    · exact (h (j + 1) (List.getElem?_eq_some_iff.mp hx).1 x hx).2 y (by omega) hy
theorem insD_at {x : Int} : ∀ {l : List Int} {j : Nat}, j ≤ l.length → (∀ i y, i < j → l[i]? = some y → y > x) → (∀ y, l[j]? = some y → ¬ y > x) → insD x l = l.take j ++ [x] ++ l.drop j
  | [], 0, _, _, _ => rfl
  | [], j + 1, h, _, _ => by simp at h
  | a :: r, 0, _, _, h => by
    unfold insD
    rw [if_neg (h a rfl)] <;> rfl
  | a :: r, j + 1, hj, h1, h2 => by
    unfold insD
    rw [if_pos (h1 0 a (by omega) rfl), insD_at (l := r) (j := j) (by simpa using hj) (fun i y hi hy => h1 (i + 1) y (by omega) hy) h2] <;> rfl
theorem op_eqDK {X : Cx} (K : PySem.W.Frag) (hu : X.A.units + 64 < cLine) (h : X.K = K := by rfl) : OpR X (compareOp .Eq) (rEqD K) := by
  subst h
  exact op_eqD hu

/-! ### lists of lists -/
def LLs (H : Hp) : List Addr → List (List Int) → Prop
  | [], [] => True
  | a :: as, n :: ns => IL H a n ∧ LLs H as ns
  | _, _ => False
theorem LLs.same {H H' : Hp} (e : Same H H') : ∀ {as : List Addr} {ns : List (List Int)}, LLs H as ns → LLs H' as ns
  | [], [], _ => trivial
  | _ :: _, _ :: _, h => ⟨e _ _ h.1, h.2.same e⟩
  | [], _ :: _, h => h.elim
  | _ :: _, [], h => h.elim
theorem LLs.upd {H : Hp} {p : Addr} {o : HO} : ∀ {as : List Addr} {ns : List (List Int)}, (∀ a ∈ as, a ≠ p) → LLs H as ns → LLs (upd H p o) as ns
  | [], [], _, _ => trivial
  | a :: _, _ :: _, hn, h => ⟨by show L2.upd _ _ _ _ = _; rw [upd_ne (hn a (List.mem_cons_self ..))]; exact h.1, h.2.upd fun b hb => hn b (List.mem_cons_of_mem _ hb)⟩
  | [], _ :: _, _, h => h.elim
  | _ :: _, [], _, h => h.elim
theorem LLs.len {H : Hp} : ∀ {as : List Addr} {ns : List (List Int)}, LLs H as ns → as.length = ns.length
  | [], [], _ => rfl
  | _ :: _, _ :: _, h => congrArg (· + 1) h.2.len
  | [], _ :: _, h => h.elim
  | _ :: _, [], h => h.elim
theorem LLs.get {H : Hp} : ∀ {as : List Addr} {ns : List (List Int)} {i : Nat} {a : Addr}, LLs H as ns → as[i]? = some a → ∃ n, ns[i]? = some n ∧ IL H a n
  | [], [], _, _, _, h => by simp at h
  | b :: _, m :: _, 0, a, h, e => by
    have : b = a := Option.some.inj e
    subst this
    exact ⟨m, rfl, h.1⟩
  | _ :: _, _ :: _, i + 1, a, h, e => LLs.get (i := i) h.2 e
  | [], _ :: _, _, _, h, _ => h.elim
  | _ :: _, [], _, _, h, _ => h.elim
theorem LLs.app {H : Hp} : ∀ {as bs : List Addr} {ns ms : List (List Int)}, LLs H as ns → LLs H bs ms → LLs H (as ++ bs) (ns ++ ms)
  | [], _, [], _, _, g => g
  | _ :: _, _, _ :: _, _, h, g => ⟨h.1, h.2.app g⟩
  | [], _, _ :: _, _, h, _ => h.elim
  | _ :: _, _, [], _, h, _ => h.elim
theorem LLs.in_ {H : Hp} : ∀ {as : List Addr} {ns : List (List Int)} {a : Addr}, LLs H as ns → a ∈ as → ∃ n, n ∈ ns ∧ IL H a n := fun h ha => by
  obtain ⟨i, hi⟩ := List.getElem?_of_mem ha
  obtain ⟨n, e, q⟩ := h.get hi
  exact ⟨n, List.mem_of_getElem? e, q⟩
/-- a list of lists -/
def LL (H : Hp) (a : Addr) (as : List Addr) (ns : List (List Int)) : Prop := H a = some (.lst (as.map V.ref)) ∧ LLs H as ns
/-- a new list of new lists -/
abbrev NLL (Q : VK) (H : Hp) (ns : List (List Int)) : Prop := ∀ (H' : Hp) (p : Addr) (as : List Addr), Same H H' → H p = none → (∀ a ∈ as, H a = none) → LL H' p as ns → Q (.ref p) H'
theorem get_ref {as : List Addr} {i : Nat} {x : V} (h : (as.map V.ref)[i]? = some x) : ∃ z, as[i]? = some z ∧ x = .ref z := by
  rw [List.getElem?_map] at h
  cases e : as[i]? with
  | none => rw [e] at h; cases h
  | some z => rw [e] at h; exact ⟨z, rfl, (Option.some.inj h).symm⟩
theorem ref_get {as : List Addr} {i : Nat} {z : Addr} (h : as[i]? = some z) : (as.map V.ref)[i]? = some (.ref z) := by
  rw [List.getElem?_map, h] <;> rfl
theorem rlen {as : List Addr} : (as.map V.ref).length = as.length := List.length_map _
theorem two_pow_small {c : Nat} (h : c ≤ 20) : 2 ^ c ≤ 1048576 := Nat.pow_le_pow_right (by decide) h
theorem smallM {n : Nat} (h : n ≤ 1048576) : n < sizeLine := Nat.lt_of_le_of_lt h (by decide)

/-! ### lists of lists compared -/
def toD (n : List Int) : PyData := .list (n.map PyData.int)
theorem dpAll_lls {K : PySem.W.Frag} {H : Hp} : ∀ {as : List Addr} {nss : List (List Int)}, LLs H as nss → DpAll K H (as.map V.ref) (nss.map toD)
  | [], [], _ => .nil
  | _ :: _, _ :: _, h => .cons (dp_ints (sq h.1)) (dpAll_lls h.2)
  | [], _ :: _, h => h.elim
  | _ :: _, [], h => h.elim
theorem dp_ll {K : PySem.W.Frag} {H : Hp} {a : Addr} {as : List Addr} {nss : List (List Int)} (h : LL H a as nss) : Dp K H (.ref a) (.list (nss.map toD)) := .lst (sq h.1) (dpAll_lls h.2)
theorem sh_all_lls : ∀ nss : List (List Int), PyData.canLayAll0 (nss.map toD) = true ∧ PyData.depthAll (nss.map toD) ≤ 1
  | [] => ⟨rfl, Nat.zero_le _⟩
  | n :: r => by
    obtain ⟨h1, h2⟩ := sh_all_lls r
    obtain ⟨g1, g2⟩ := sh_all_ints n
    refine ⟨?_, ?_⟩
    · rw [List.map_cons, PyData.canLayAll0, h1]
      unfold toD
      rw [PyData.canLay0, g1] <;> rfl
    · rw [List.map_cons, PyData.depthAll]
      have : PyData.depth (toD n) = 1 := by
        unfold toD
        rw [PyData.depth, g2]
      omega
theorem sh_lls (nss : List (List Int)) : SeqAt.shaped (.list (nss.map toD)) = true := by
  obtain ⟨h1, h2⟩ := sh_all_lls nss
  unfold SeqAt.shaped
  rw [PyData.canLay0, PyData.depth, h1]
  exact decide_eq_true (by omega)
theorem any_lls (n : List Int) : ∀ nss : List (List Int), ((nss.map toD).any fun z => PyData.eqv z (toD n)) = decide (n ∈ nss)
  | [] => rfl
  | m :: r => by
    rw [List.map_cons, List.any_cons, any_lls n r]
    unfold toD
    rw [eqv_ints]
    by_cases e : m = n
    · subst e
      simp
    · by_cases e2 : n ∈ r
      · simp [e, e2]
      · have e3 : ¬ n = m := fun h => e h.symm
        simp [e, e2, e3]
theorem eqv_all_lls : ∀ ns ms : List (List Int), PyData.eqvAll (ns.map toD) (ms.map toD) = decide (ns = ms)
  | [], [] => by rw [List.map_nil, PyData.eqvAll] <;> rfl
  | [], m :: ms => by rw [List.map_nil, List.map_cons, PyData.eqvAll] <;> simp
  | n :: ns, [] => by rw [List.map_nil, List.map_cons, PyData.eqvAll] <;> simp
  | n :: ns, m :: ms => by
    rw [List.map_cons, List.map_cons, PyData.eqvAll, eqv_all_lls ns ms]
    unfold toD
    rw [eqv_ints]
    by_cases e : n = m
    · subst e
      simp
    · simp [e]
theorem eqv_lls (ns ms : List (List Int)) : PyData.eqv (.list (ns.map toD)) (.list (ms.map toD)) = decide (ns = ms) := by
  rw [PyData.eqv]
  exact eqv_all_lls ns ms
theorem LLs.ne {H : Hp} {p : Addr} (h : H p = none) {as : List Addr} {nss : List (List Int)} (q : LLs H as nss) : ∀ a ∈ as, a ≠ p := fun a ha => by
  obtain ⟨m, _, em⟩ := q.in_ ha
  exact ne_of_none em h
/-- a list of refs that is not empty is no list of ints -/
theorem ref_ne_int {H : Hp} {f a : Addr} {fs : List Addr} {x : List Int} (hf : H f = some (.lst (fs.map V.ref))) (ha : H a = some (.lst (x.map V.int))) (h : 0 < fs.length) : f ≠ a := fun e => by
  rw [e, ha] at hf
  have h2 := Option.some.inj hf
  have h3 : x.map V.int = fs.map V.ref := by
    injection h2
  have g0 : fs[0]? = some (fs[0]'h) := List.getElem?_eq_getElem h
  have h4 := congrArg (fun l => l[0]?) h3
  simp only [List.getElem?_map, g0, Option.map_some] at h4
  cases hx0 : x[0]? with
  | none =>
    rw [hx0] at h4
    cases h4
  | some z =>
    rw [hx0] at h4
    cases h4
theorem cut_butlast (xs : List V) : cutV xs none (some (-1)) = xs.dropLast := by
  unfold cutV
  rw [HT.sIx_none, show HT.sIx xs.length xs.length (some (-1)) = xs.length - 1 by
    show (if (-1 : Int) < 0 then ((-1 : Int) + (xs.length : Int)).toNat else min (-1 : Int).toNat xs.length) = xs.length - 1
    rw [if_pos (by decide)]
    omega, Nat.sub_zero, List.drop_zero, List.dropLast_eq_take]
/-- the script and a new object -/
theorem SL.apart {K : PySem.W.Frag} {H : Hp} {a D : Addr} {ns : List Int} (h : SL K H a ns) (n : H D = none) : a ≠ D ∨ ∀ H, SL K H a ns := by
  rcases h with (e | ⟨o, e⟩) | e
  · exact .inl (ne_of_none e n)
  · exact .inl (ne_of_none e n)
  · exact .inr fun _ => .inr e
theorem SL.upd {K : PySem.W.Frag} {H : Hp} {a D : Addr} {ns : List Int} {o : HO} (h : SL K H a ns) (d : a ≠ D ∨ ∀ H, SL K H a ns) : SL K (upd H D o) a ns := by
  rcases d with d | d
  · rcases h with (e | ⟨o', e⟩) | e
    · exact .inl (.inl (by rw [upd_ne d]; exact e))
    · exact .inl (.inr ⟨o', by rw [upd_ne d]; exact e⟩)
    · exact .inr e
  · exact d _

/-! ### the first setting that comes again; dicts with settings for keys -/
structure Meet (ns : List Int) (i p : Nat) : Prop where
  pos : 1 ≤ p
  back : turnN (i + p) ns = turnN i ns
  inj : ∀ a b, a < b → b < i + p → turnN a ns ≠ turnN b ns
theorem meet_ex {n : Nat} {ns : List Int} (h : IsSet n ns) (h1 : 1 ≤ n) (h2 : n ≤ 100) : ∃ i p, i + p ≤ 410 ∧ Meet ns i p := by
  obtain ⟨w, hw, _, ht⟩ := way_ex h h1 h2
  obtain ⟨⟨d, hd, hring⟩, _⟩ := round_ring (turnN_set (j := w) h) h1 h2 ht
  have e : turnN (w + d) ns = turnN w ns := by
    rw [Nat.add_comm, turnN_add]
    exact hring.back
  have hp := hring.pos
  obtain ⟨L, hL, ⟨i, hi, ei⟩, hb⟩ := least_of (p := fun L => ∃ i, i < L ∧ turnN L ns = turnN i ns) (w + d) ⟨w, by omega, e⟩
  refine ⟨i, L - i, by omega, by omega, by rw [show i + (L - i) = L by omega]; exact ei, fun a b hab hbL e => ?_⟩
  exact hb b (by omega) ⟨a, hab, e.symm⟩
theorem turnN_per {ns : List Int} {i p : Nat} (h : turnN (i + p) ns = turnN i ns) : ∀ m q, turnN (i + p * m + q) ns = turnN (i + q) ns
  | 0, q => rfl
  | m + 1, q => by
    have e : i + p * (m + 1) + q = (p * m + q) + (i + p) := by
      rw [Nat.mul_add, Nat.mul_one]
      omega
    rw [e, turnN_add, h, ← turnN_add, show p * m + q + i = i + p * m + q by omega]
    exact turnN_per h m q
theorem Meet.at {ns : List Int} {i p : Nat} (h : Meet ns i p) {t : Nat} (ht : i ≤ t) : turnN t ns = turnN (i + (t - i) % p) ns := by
  have := turnN_per h.back ((t - i) / p) ((t - i) % p)
  have e := Nat.div_add_mod (t - i) p
  rw [show i + p * ((t - i) / p) + (t - i) % p = t by omega] at this
  exact this
def kT (x : List Int) : List Key := x.map Sum.inl
theorem kT_map (x : List Int) : (kT x).map kV = x.map V.int := by
  unfold kT
  rw [List.map_map]
  rfl
theorem kT_inj : ∀ {x y : List Int}, kT x = kT y → x = y
  | [], [], _ => rfl
  | [], _ :: _, h => by cases h
  | _ :: _, [], h => by cases h
  | a :: x, b :: y, h => by
    have h : (Sum.inl a : Key) :: kT x = Sum.inl b :: kT y := h
    injection h with h1 h2
    injection h1 with h1
    rw [h1, kT_inj h2]
theorem valV_no {kvs : List (List Key × V)} {k : List Key} (h : ∀ kv ∈ kvs, kv.1 ≠ k) : valV kvs k = none := by
  unfold valV
  rw [List.find?_eq_none.mpr fun kv hk c => h kv hk (of_decide_eq_true c)]
  rfl
theorem valV_yes {kvs : List (List Key × V)} {k : List Key} {v : V} (h : (k, v) ∈ kvs) (hu : ∀ kv ∈ kvs, kv.1 = k → kv.2 = v) : valV kvs k = some v := by
  unfold valV
  cases e : kvs.find? fun kv => decide (kv.1 = k) with
  | none => exact absurd (decide_eq_true rfl) (List.find?_eq_none.mp e _ h)
  | some kv => exact congrArg some (hu kv (List.mem_of_find?_eq_some e) (of_decide_eq_true (List.find?_some (p := fun kv : List Key × V => decide (kv.1 = k)) e)))
/-- what was seen on the way -/
def seenL (j : Nat) (ns : List Int) : List (List Key × V) := (List.range j).map fun i => (kT (turnN i ns), V.int i)
theorem seenL_succ (j : Nat) (ns : List Int) : seenL (j + 1) ns = seenL j ns ++ [(kT (turnN j ns), V.int j)] := by
  unfold seenL
  rw [List.range_succ, List.map_append] <;> rfl
theorem mem_seenL {j : Nat} {ns : List Int} {kv : List Key × V} : kv ∈ seenL j ns ↔ ∃ i, i < j ∧ (kT (turnN i ns), V.int i) = kv := by
  unfold seenL
  simp only [List.mem_map, List.mem_range]
theorem seenL_no {j : Nat} {ns x : List Int} (h : ∀ i, i < j → turnN i ns ≠ x) : valV (seenL j ns) (kT x) = none := valV_no fun kv hk e => by
  obtain ⟨i, hi, rfl⟩ := mem_seenL.mp hk
  exact h i hi (kT_inj e)
theorem seenL_yes {j i : Nat} {ns x : List Int} (hi : i < j) (e : turnN i ns = x) (hu : ∀ a b, a < b → b < j → turnN a ns ≠ turnN b ns) : valV (seenL j ns) (kT x) = some (.int i) := by
  subst e
  refine valV_yes (mem_seenL.mpr ⟨i, hi, rfl⟩) fun kv hk e => ?_
  obtain ⟨q, hq, rfl⟩ := mem_seenL.mp hk
  have e := kT_inj e
  rcases Nat.lt_trichotomy q i with l | l | l
  · exact absurd e (hu q i l hi)
  · rw [l]
  · exact absurd e.symm (hu i q l hq)
theorem seenL_len (j : Nat) (ns : List Int) : (seenL j ns).length = j := by
  unfold seenL
  rw [List.length_map, List.length_range]
theorem hu1 {A : Around} {k : Nat} (r : Room k A) : A.units + 1 < cLine := by
  have := r.un
  omega
theorem LLs.at {H : Hp} : ∀ {as : List Addr} {ns : List (List Int)} {i : Nat} {m : List Int}, LLs H as ns → ns[i]? = some m → ∃ a, as[i]? = some a ∧ IL H a m := fun {as ns i m} h e => by
  have hl := h.len
  have hi : i < as.length := by
    rw [hl]
    exact (List.getElem?_eq_some_iff.mp e).1
  have ha : as[i]? = some as[i] := List.getElem?_eq_getElem hi
  obtain ⟨m', em, q⟩ := h.get ha
  rw [e] at em
  obtain rfl := Option.some.inj em
  exact ⟨_, ha, q⟩
theorem ringL_get {d j : Nat} {x : List Int} (h : j < d) : (ringL d x)[j]? = some (turnN j x) := by
  unfold ringL
  rw [List.getElem?_map, List.getElem?_range h] <;> rfl

/-! ### all marks, all rings -/
def allM : Nat → Int → List (List Int)
  | 0, o => if o < 0 then [] else if o > 0 then [] else [[]]
  | m + 1, o => if o < 0 then [] else if o > ((m + 1 : Nat) : Int) then [] else (allM m (o - 1)).map (1 :: ·) ++ (allM m o).map (0 :: ·)
theorem allM_len : ∀ (m : Nat) (o : Int), (allM m o).length ≤ 2 ^ m
  | 0, o => by
    unfold allM
    split
    · exact Nat.zero_le _
    · split
      · exact Nat.zero_le _
      · exact Nat.le_refl _
  | m + 1, o => by
    have h1 := allM_len m (o - 1)
    have h2 := allM_len m o
    unfold allM
    split
    · exact Nat.zero_le _
    · split
      · exact Nat.zero_le _
      · rw [List.length_append, List.length_map, List.length_map, Nat.pow_succ]
        omega
theorem mem_allM : ∀ {m : Nat} {o : Int} {ms : List Int}, ms ∈ allM m o ↔ Bits ms ∧ ms.length = m ∧ ms.sum = o
  | 0, o, ms => by
    unfold allM
    constructor
    · intro h
      split at h
      · cases h
      · split at h
        · cases h
        · rename_i a b
          rw [List.mem_singleton.mp h]
          refine ⟨fun z hz => (by cases hz), rfl, ?_⟩
          show (0 : Int) = o
          omega
    · rintro ⟨_, h, h2⟩
      have e := List.eq_nil_of_length_eq_zero h
      subst e
      have h2 : (0 : Int) = o := h2
      rw [if_neg (by omega), if_neg (by omega)]
      exact List.mem_singleton.mpr rfl
  | m + 1, o, ms => by
    unfold allM
    constructor
    · intro h
      split at h
      · cases h
      · split at h
        · cases h
        · rcases List.mem_append.mp h with h | h
          · obtain ⟨r, hr, rfl⟩ := List.mem_map.mp h
            obtain ⟨h1, h2, h3⟩ := mem_allM.mp hr
            refine ⟨fun z hz => ?_, by rw [List.length_cons, h2], by rw [List.sum_cons, h3]; omega⟩
            rcases List.mem_cons.mp hz with rfl | hz
            · exact .inr rfl
            · exact h1 z hz
          · obtain ⟨r, hr, rfl⟩ := List.mem_map.mp h
            obtain ⟨h1, h2, h3⟩ := mem_allM.mp hr
            refine ⟨fun z hz => ?_, by rw [List.length_cons, h2], by rw [List.sum_cons, h3]; omega⟩
            rcases List.mem_cons.mp hz with rfl | hz
            · exact .inl rfl
            · exact h1 z hz
    · rintro ⟨h1, h2, h3⟩
      obtain ⟨b0, b1⟩ := bits_sum_range h1
      rw [if_neg (by omega), if_neg (by omega)]
      match ms, h2 with
      | z :: r, h2 =>
        have hr : Bits r := fun y hy => h1 y (List.mem_cons_of_mem _ hy)
        rw [List.sum_cons] at h3
        have hl : r.length = m := by simpa using h2
        rcases h1 z (List.mem_cons_self ..) with rfl | rfl
        · exact List.mem_append_right _ (List.mem_map.mpr ⟨r, mem_allM.mpr ⟨hr, hl, by omega⟩, rfl⟩)
        · exact List.mem_append_left _ (List.mem_map.mpr ⟨r, mem_allM.mpr ⟨hr, hl, by omega⟩, rfl⟩)
/-- the first turn back -/
def perUp : Nat → Nat → List Int → List Int → Nat
  | 0, d, _, _ => d
  | f + 1, d, y, x => if y = x then d else perUp f (d + 1) (turn y) x
theorem perUp_eq {x : List Int} {d : Nat} (h : Ring x d) : ∀ f j, 1 ≤ j → j ≤ d → d ≤ f + j → perUp f j (turnN j x) x = d
  | 0, j, _, h2, h3 => by
    show j = d
    omega
  | f + 1, j, h1, h2, h3 => by
    unfold perUp
    by_cases e : turnN j x = x
    · rw [if_pos e]
      rcases Nat.lt_or_ge j d with l | l
      · exact absurd e (h.first j (by omega) l)
      · omega
    · rw [if_neg e]
      have hj : j < d := by
        rcases Nat.lt_or_ge j d with l | l
        · exact l
        · obtain rfl : j = d := by omega
          exact absurd h.back e
      have := perUp_eq h f (j + 1) (by omega) (by omega) (by omega)
      rw [turnN_succ] at this
      exact this
def ringOf (x : List Int) : List (List Int) := ringL (perUp 14 1 (turn x) x) x
theorem ringOf_eq {x : List Int} {d : Nat} (h : Ring x d) (hd : d ≤ 14) : ringOf x = ringL d x := by
  have := perUp_eq h 14 1 (Nat.le_refl _) h.pos (by omega)
  unfold ringOf
  rw [show turn x = turnN 1 x from rfl, this]
def addRing (found : List (List (List Int))) (ms : List Int) : List (List (List Int)) := if ofMarks ms ∈ found.flatten then found else found ++ [ringOf (ofMarks ms)]
def ringsF (l : List (List Int)) : List (List (List Int)) := l.foldl addRing []
def rings (n : Nat) : List (List (List Int)) := ringsF (allM (stair n) (restOf n))
theorem ringsF_snoc (l : List (List Int)) (m : List Int) : ringsF (l ++ [m]) = addRing (ringsF l) m := by
  unfold ringsF
  rw [List.foldl_append] <;> rfl
theorem ringsF_len : ∀ l : List (List Int), ∀ i, (ringsF (l.take i)).length ≤ i
  | l, 0 => by
    rw [List.take_zero]
    exact Nat.le_refl _
  | l, i + 1 => by
    have ih := ringsF_len l i
    rw [List.take_add_one]
    cases l[i]? with
    | none =>
      rw [Option.toList_none, List.append_nil]
      omega
    | some m =>
      rw [Option.toList_some, ringsF_snoc]
      unfold addRing
      split
      · omega
      · rw [List.length_append, List.length_singleton]
        omega
/-- lists of lists of lists, the lists in them such as F says -/
def L3s (F : Addr → Prop) (H : Hp) : List Addr → List (List (List Int)) → Prop
  | [], [] => True
  | a :: as, n :: ns => (F a ∧ ∃ bs : List Addr, LL H a bs n ∧ ∀ b ∈ bs, F b) ∧ L3s F H as ns
  | _, _ => False
theorem L3s.same {F : Addr → Prop} {H H' : Hp} (e : Same H H') : ∀ {as : List Addr} {ns : List (List (List Int))}, L3s F H as ns → L3s F H' as ns
  | [], [], _ => trivial
  | _ :: _, _ :: _, ⟨⟨h1, bs, h2, h3⟩, h⟩ => ⟨⟨h1, bs, ⟨e _ _ h2.1, h2.2.same e⟩, h3⟩, L3s.same e h⟩
  | [], _ :: _, h => h.elim
  | _ :: _, [], h => h.elim
theorem L3s.upd {F : Addr → Prop} {H : Hp} {p : Addr} {o : HO} (n : ∀ a, F a → a ≠ p) : ∀ {as : List Addr} {ns : List (List (List Int))}, L3s F H as ns → L3s F (upd H p o) as ns
  | [], [], _ => trivial
  | _ :: _, _ :: _, ⟨⟨h1, bs, h2, h3⟩, h⟩ => ⟨⟨h1, bs, ⟨by rw [upd_ne (n _ h1)]; exact h2.1, h2.2.upd fun b hb => n b (h3 b hb)⟩, h3⟩, L3s.upd n h⟩
  | [], _ :: _, h => h.elim
  | _ :: _, [], h => h.elim
theorem L3s.mono {F G : Addr → Prop} {H : Hp} (e : ∀ a, F a → G a) : ∀ {as : List Addr} {ns : List (List (List Int))}, L3s F H as ns → L3s G H as ns
  | [], [], _ => trivial
  | _ :: _, _ :: _, ⟨⟨h1, bs, h2, h3⟩, h⟩ => ⟨⟨e _ h1, bs, h2, fun b hb => e b (h3 b hb)⟩, L3s.mono e h⟩
  | [], _ :: _, h => h.elim
  | _ :: _, [], h => h.elim
theorem L3s.len {F : Addr → Prop} {H : Hp} : ∀ {as : List Addr} {ns : List (List (List Int))}, L3s F H as ns → as.length = ns.length
  | [], [], _ => rfl
  | _ :: _, _ :: _, h => congrArg (· + 1) (L3s.len h.2)
  | [], _ :: _, h => h.elim
  | _ :: _, [], h => h.elim
theorem L3s.app {F : Addr → Prop} {H : Hp} : ∀ {as bs : List Addr} {ns ms : List (List (List Int))}, L3s F H as ns → L3s F H bs ms → L3s F H (as ++ bs) (ns ++ ms)
  | [], _, [], _, _, g => g
  | _ :: _, _, _ :: _, _, h, g => ⟨h.1, L3s.app h.2 g⟩
  | [], _, _ :: _, _, h, _ => h.elim
  | _ :: _, _, [], _, h, _ => h.elim
theorem L3s.get {F : Addr → Prop} {H : Hp} : ∀ {as : List Addr} {ns : List (List (List Int))} {i : Nat} {a : Addr}, L3s F H as ns → as[i]? = some a → ∃ n bs, ns[i]? = some n ∧ F a ∧ LL H a bs n ∧ ∀ b ∈ bs, F b
  | [], [], _, _, _, h => by simp at h
  | b :: _, m :: _, 0, a, ⟨⟨h1, bs, h2, h3⟩, h⟩, e => by
    have : b = a := Option.some.inj e
    subst this
    exact ⟨m, bs, rfl, h1, h2, h3⟩
  | _ :: _, _ :: _, i + 1, a, h, e => L3s.get (i := i) h.2 e
  | [], _ :: _, _, _, h, _ => h.elim
  | _ :: _, [], _, _, h, _ => h.elim
/-- a new list of new rings -/
abbrev NL3 (Q : VK) (H : Hp) (rs : List (List (List Int))) : Prop := ∀ (H' : Hp) (p : Addr) (as : List Addr), Same H H' → H p = none → H' p = some (.lst (as.map V.ref)) → L3s (fun b => H b = none ∧ b ≠ p) H' as rs → Q (.ref p) H'
/-! ### the rings as the law makes them -/
def turnsL (S : Nat) (ms : List Int) : List (List Int) := (List.range S).map fun k => ms.drop (S - k) ++ ms.take (S - k)
def addNew (r : List (List Int)) (one : List Int) : List (List Int) := if ofMarks one ∈ r then r else r ++ [ofMarks one]
def ringD (l : List (List Int)) : List (List Int) := l.foldl addNew []
theorem ringD_snoc (l : List (List Int)) (m : List Int) : ringD (l ++ [m]) = addNew (ringD l) m := by
  unfold ringD
  rw [List.foldl_append] <;> rfl
theorem ringD_len : ∀ l : List (List Int), ∀ i, (ringD (l.take i)).length ≤ i
  | l, 0 => by
    rw [List.take_zero]
    exact Nat.le_refl _
  | l, i + 1 => by
    have ih := ringD_len l i
    rw [List.take_add_one]
    cases l[i]? with
    | none =>
      rw [Option.toList_none, List.append_nil]
      omega
    | some m =>
      rw [Option.toList_some, ringD_snoc]
      unfold addNew
      split
      · omega
      · rw [List.length_append, List.length_singleton]
        omega
def addMax (S : Nat) (found : List (List (List Int))) (ms : List Int) : List (List (List Int)) := if ∀ y ∈ turnsL S ms, y ≤ ms then found ++ [ringD (turnsL S ms)] else found
def lawRings (S : Nat) (l : List (List Int)) : List (List (List Int)) := l.foldl (addMax S) []
theorem lawRings_snoc (S : Nat) (l : List (List Int)) (m : List Int) : lawRings S (l ++ [m]) = addMax S (lawRings S l) m := by
  unfold lawRings
  rw [List.foldl_append] <;> rfl
theorem lawRings_len (S : Nat) : ∀ l : List (List Int), ∀ i, (lawRings S (l.take i)).length ≤ i
  | l, 0 => by
    rw [List.take_zero]
    exact Nat.le_refl _
  | l, i + 1 => by
    have ih := lawRings_len S l i
    rw [List.take_add_one]
    cases l[i]? with
    | none =>
      rw [Option.toList_none, List.append_nil]
      omega
    | some m =>
      rw [Option.toList_some, lawRings_snoc]
      unfold addMax
      split
      · rw [List.length_append, List.length_singleton]
        omega
      · omega
theorem L3s.apart {F : Addr → Prop} {H : Hp} {p : Addr} (n : H p = none) : ∀ {as : List Addr} {ns : List (List (List Int))}, L3s F H as ns → L3s (fun b => F b ∧ b ≠ p) H as ns
  | [], [], _ => trivial
  | _ :: _, _ :: _, ⟨⟨h1, bs, h2, h3⟩, h⟩ => ⟨⟨⟨h1, ne_of_none h2.1 n⟩, bs, h2, fun b hb => ⟨h3 b hb, h2.2.ne n b hb⟩⟩, L3s.apart n h⟩
  | [], _ :: _, h => h.elim
  | _ :: _, [], h => h.elim

/-! ### what the rings draw in -/
def finF : Nat → List Int → List Int
  | 0, x => x
  | f + 1, x => if marksBy x = [] then finF f (turn x) else x
def fin (x : List Int) : List Int := finF 400 x
theorem finF_way : ∀ (f w : Nat) (x : List Int), w ≤ f → (∀ j, j < w → marksBy (turnN j x) = []) → marksBy (turnN w x) ≠ [] → finF f x = turnN w x
  | 0, w, x, h, _, _ => by
    obtain rfl : w = 0 := by omega
    rfl
  | f + 1, 0, x, _, _, h2 => by
    unfold finF
    rw [if_neg (show ¬ marksBy x = [] from h2)]
    rfl
  | f + 1, w + 1, x, h, h1, h2 => by
    unfold finF
    rw [if_pos (show marksBy x = [] from h1 0 (by omega))]
    exact finF_way f w (turn x) (by omega) (fun j hj => h1 (j + 1) (by omega)) h2
theorem fin_way {w : Nat} {x : List Int} (h : w ≤ 400) (h1 : ∀ j, j < w → marksBy (turnN j x) = []) (h2 : marksBy (turnN w x) ≠ []) : ∀ i, i ≤ w → fin (turnN i x) = turnN w x := fun i hi => by
  have := finF_way 400 (w - i) (turnN i x) (by omega) (fun j hj => by rw [← turnN_add]; exact h1 (j + i) (by omega)) (by rw [← turnN_add, show w - i + i = w by omega]; exact h2)
  rw [← turnN_add, show w - i + i = w by omega] at this
  exact this
theorem fin_round {x : List Int} (h : marksBy x ≠ []) : fin x = x := fin_way (w := 0) (x := x) (by omega) (fun j hj => by omega) h 0 (Nat.le_refl _)
/-- a setting's ring: the last one of the first k that holds it -/
def atN (rs : List (List (List Int))) (x : List Int) : Nat → Option Nat
  | 0 => none
  | k + 1 => if x ∈ rs.getD k [] then some k else atN rs x k
theorem atN_lt {rs : List (List (List Int))} {x : List Int} : ∀ {k i : Nat}, atN rs x k = some i → i < k ∧ x ∈ rs.getD i []
  | 0, i, h => by cases h
  | k + 1, i, h => by
    unfold atN at h
    by_cases c : x ∈ rs.getD k []
    · rw [if_pos c] at h
      obtain rfl := Option.some.inj h
      exact ⟨Nat.lt_succ_self _, c⟩
    · rw [if_neg c] at h
      have := atN_lt h
      exact ⟨by omega, this.2⟩
theorem atN_some {rs : List (List (List Int))} {x : List Int} : ∀ {k i : Nat}, i < k → x ∈ rs.getD i [] → ∃ j, atN rs x k = some j
  | 0, i, h, _ => by omega
  | k + 1, i, h, hx => by
    unfold atN
    by_cases c : x ∈ rs.getD k []
    · exact ⟨k, by rw [if_pos c]⟩
    · rw [if_neg c]
      rcases Nat.lt_or_ge i k with l | l
      · exact atN_some l hx
      · obtain rfl : i = k := by omega
        exact absurd hx c
theorem perUp_ge : ∀ (f d : Nat) (y x : List Int), d ≤ perUp f d y x
  | 0, d, _, _ => Nat.le_refl _
  | f + 1, d, y, x => by
    unfold perUp
    split
    · exact Nat.le_refl _
    · have := perUp_ge f (d + 1) (turn y) x
      omega
theorem mem_ringOf (x : List Int) : x ∈ ringOf x := by
  unfold ringOf
  have := perUp_ge 14 1 (turn x) x
  exact mem_ringL.mpr ⟨0, by omega, rfl⟩
theorem snoc_ind {α : Type} {p : List α → Prop} (h0 : p []) (h1 : ∀ l x, p l → p (l ++ [x])) : ∀ l, p l := fun l => by
  have : ∀ n (l : List α), l.length = n → p l := fun n => by
    induction n with
    | zero =>
      intro l h
      rw [List.eq_nil_of_length_eq_zero h]
      exact h0
    | succ n ih =>
      intro l h
      have hne : l ≠ [] := fun e => by
        rw [e] at h
        cases h
      rw [← List.dropLast_concat_getLast hne]
      exact h1 _ _ (ih _ (by rw [List.length_dropLast, h]; omega))
  exact this _ l rfl
theorem ringsF_mem : ∀ (l : List (List Int)), ∀ ms ∈ l, ofMarks ms ∈ (ringsF l).flatten := by
  refine snoc_ind (fun ms h => by cases h) fun l m ih ms h => ?_
  rw [ringsF_snoc]
  unfold addRing
  rcases List.mem_append.mp h with h | h
  · have := ih ms h
    split
    · exact this
    · rw [List.flatten_append]
      exact List.mem_append_left _ this
  · rw [List.mem_singleton.mp h]
    split
    · rename_i c
      exact c
    · rw [List.flatten_append]
      refine List.mem_append_right _ ?_
      rw [List.flatten_cons]
      exact List.mem_append_left _ (mem_ringOf _)
theorem ringsF_elt : ∀ (l : List (List Int)), ∀ r ∈ ringsF l, ∃ ms ∈ l, r = ringOf (ofMarks ms) := by
  refine snoc_ind (fun r h => by cases h) fun l m ih r h => ?_
  rw [ringsF_snoc] at h
  unfold addRing at h
  have key : r ∈ ringsF l → ∃ ms ∈ l ++ [m], r = ringOf (ofMarks ms) := fun h => by
    obtain ⟨ms, h1, h2⟩ := ih r h
    exact ⟨ms, List.mem_append_left _ h1, h2⟩
  split at h
  · exact key h
  · rcases List.mem_append.mp h with h | h
    · exact key h
    · exact ⟨m, List.mem_append_right _ (List.mem_singleton.mpr rfl), List.mem_singleton.mp h⟩
theorem rings_elt {n : Nat} (h1 : 1 ≤ n) {r : List (List Int)} (hr : r ∈ rings n) : r ≠ [] ∧ ∀ x ∈ r, IsSet n x ∧ marksBy x ≠ [] := by
  obtain ⟨ms, hm, rfl⟩ := ringsF_elt _ r hr
  obtain ⟨b, l, s⟩ := mem_allM.mp hm
  obtain ⟨r1, r2, r3⟩ := rest_spec h1
  refine ⟨fun e => ?_, fun x hx => ?_⟩
  · have := mem_ringOf (ofMarks ms)
    rw [e] at this
    cases this
  · unfold ringOf at hx
    obtain ⟨j, _, rfl⟩ := mem_ringL.mp hx
    refine ⟨turnN_set (ofMarks_set h1 b l s), ?_⟩
    obtain ⟨q1, q2, q3, q4⟩ := rotN_facts b (by omega) j
    rw [q4, marksBy_of q1 (by omega)]
    intro e
    rw [e] at q2
    have : (0 : Int) = ms.sum := q2
    omega
theorem rings_at {n : Nat} (h1 : 1 ≤ n) {x : List Int} (h : IsSet n x) (hm : marksBy x ≠ []) : ∃ k, atN (rings n) x (rings n).length = some k ∧ k < (rings n).length := by
  obtain ⟨b, e, s, l⟩ := round_inv h h1 hm
  obtain ⟨r1, r2, r3⟩ := rest_spec h1
  have hs := ofMarks_sum b
  rw [e, h.2, l] at hs
  have hx := ringsF_mem _ _ (mem_allM.mpr ⟨b, l, show (marksBy x).sum = (restOf n : Int) by omega⟩)
  rw [e] at hx
  obtain ⟨r, hr, hxr⟩ := List.mem_flatten.mp hx
  obtain ⟨i, hi⟩ := List.getElem?_of_mem hr
  have hil := (List.getElem?_eq_some_iff.mp hi).1
  have hi2 : (rings n)[i]? = some r := hi
  obtain ⟨k, hk⟩ := atN_some (rs := rings n) (x := x) (k := (rings n).length) hil (by rw [List.getD_eq_getElem?_getD, hi2]; exact hxr)
  exact ⟨k, hk, (atN_lt hk).1⟩
/-- how many of l come to each ring -/
def cntsL (rs : List (List (List Int))) (l : List (List Int)) : List Int := (List.range rs.length).map fun k => ((l.countP fun s => decide (atN rs (fin s) rs.length = some k) : Nat) : Int)
theorem cntsL_len (rs : List (List (List Int))) (l : List (List Int)) : (cntsL rs l).length = rs.length := by
  unfold cntsL
  rw [List.length_map, List.length_range]
theorem cntsL_get {rs : List (List (List Int))} (l : List (List Int)) {k : Nat} (h : k < rs.length) : (cntsL rs l)[k]? = some ((l.countP fun s => decide (atN rs (fin s) rs.length = some k) : Nat) : Int) := by
  unfold cntsL
  rw [List.getElem?_map, List.getElem?_range h] <;> rfl
theorem cntsL_nil (rs : List (List (List Int))) : cntsL rs [] = List.replicate rs.length 0 := by
  refine List.ext_getElem? fun k => ?_
  rcases Nat.lt_or_ge k rs.length with l | l
  · rw [cntsL_get [] l, List.getElem?_replicate, if_pos l] <;> rfl
  · rw [List.getElem?_eq_none (by rw [cntsL_len]; exact l), List.getElem?_eq_none (by rw [List.length_replicate]; exact l)]
theorem cntsL_snoc {rs : List (List (List Int))} {l : List (List Int)} {s : List Int} {i : Nat} {z : Int} (h : atN rs (fin s) rs.length = some i) (hz : (cntsL rs l)[i]? = some z) : cntsL rs (l ++ [s]) = (cntsL rs l).set i (z + 1) := by
  have hi := (atN_lt h).1
  refine List.ext_getElem? fun k => ?_
  rw [List.getElem?_set]
  rcases Nat.lt_or_ge k rs.length with q | q
  · rw [cntsL_get _ q, List.countP_append, List.countP_singleton, h]
    by_cases e : i = k
    · subst e
      rw [cntsL_get l hi] at hz
      rw [if_pos rfl, cntsL_len, if_pos hi, if_pos (decide_eq_true rfl), ← Option.some.inj hz]
      rfl
    · rw [if_neg e, if_neg (by rw [decide_eq_true_eq]; exact fun c => e (Option.some.inj c)), cntsL_get l q, Nat.add_zero]
  · rw [List.getElem?_eq_none (by rw [cntsL_len]; exact q)]
    rw [if_neg (by omega), List.getElem?_eq_none (by rw [cntsL_len]; exact q)]
theorem cntsL_perm {rs : List (List (List Int))} {l m : List (List Int)} (h : l.Perm m) : cntsL rs l = cntsL rs m := by
  unfold cntsL
  congr 1
  funext k
  rw [h.countP_eq]
def cnts (n : Nat) : List Int := cntsL (rings n) (parts 20 n n)
theorem perUp_le : ∀ (f d : Nat) (y x : List Int), perUp f d y x ≤ d + f
  | 0, d, _, _ => Nat.le_refl _
  | f + 1, d, y, x => by
    unfold perUp
    split
    · omega
    · have := perUp_le f (d + 1) (turn y) x
      omega
theorem rings_len {n : Nat} {r : List (List Int)} (hr : r ∈ rings n) : r.length ≤ 15 := by
  obtain ⟨ms, hm, rfl⟩ := ringsF_elt _ r hr
  unfold ringOf
  rw [ringL_len]
  exact perUp_le 14 1 _ _
theorem rings_many_le {n : Nat} (h1 : 1 ≤ n) (h2 : n ≤ 36) : (rings n).length ≤ 256 := by
  have := ringsF_len (allM (stair n) (restOf n)) (allM (stair n) (restOf n)).length
  rw [List.take_length] at this
  have l := allM_len (stair n) (restOf n)
  have hst := stair_le h1 (b := 8) (by omega) (by omega)
  have h2l : 2 ^ stair n ≤ 2 ^ 8 := Nat.pow_le_pow_right (by decide) hst
  have : (rings n).length ≤ (allM (stair n) (restOf n)).length := this
  omega
theorem ixN_of {n j : Nat} (h : j < n) : ixN n (j : Int) = some j := by
  unfold ixN
  rw [if_pos (by omega), if_pos (by omega), Int.toNat_natCast]
theorem set_map (l : List Int) (i : Nat) (z : Int) : (l.map V.int).set i (V.int z) = (l.set i z).map V.int := List.map_set.symm
theorem parts18 : ∀ n : Fin 19, 1 ≤ n.1 → partsA 20 n.1 n.1 = (parts 20 n.1 n.1).reverse ∧ (parts 20 n.1 n.1).length ≤ 385 ∧ ∀ s ∈ parts 20 n.1 n.1, (∀ x ∈ s, 1 ≤ x) ∧ s.Pairwise (· ≥ ·) ∧ s ≠ [] ∧ s.sum = (n.1 : Int) := by decide +kernel

/-! ### own exceptions: facts of the classes -/
def eNames : List Str := ["NoPiles", "NotRound", "NoMarks", "NoNumber", "NoNote"]
def excOneB (K : PySem.W.Frag) (x : Str) : Bool :=
  ((He.Fa.glo x).ok K && (He.Fa.exc x).ok K) &&
  (decide (PySem.W.findIn K (.ref (He.ga K x)) "__getattribute__" = some (some (.builtin "BaseException.__getattribute__"))) && (decide (PySem.W.findIn K (.ref (He.ga K x)) "__getattr__" = some none) && (PySem.W.hasDictIn K (He.ga K x) &&
  (decide (PySem.W.findIn K (.ref (He.ga K x)) "__class__" = some (some (.builtin "object.__class__"))) && (decide (PySem.W.specialIn K (.builtin "object.__class__") "__get__" = some (some (.builtin "getset_descriptor.__get__"))) &&
  (decide (PySem.W.takesIn K (.builtin "object.__class__") = some true) && decide (PySem.W.mroIn K (He.ga K x) (.type "object") = some true))))))) &&
  (decide (PySem.W.exmOne K (.ref (He.ga K x)) (.ref (He.ga K "PileError")) = some true) && (decide (PySem.W.kitOne K (.ref (He.ga K x)) (.type "ValueError") = some true) &&
  eNames.all fun y => decide (PySem.W.kitOne K (.ref (He.ga K x)) (.ref (He.ga K y)) = some (decide (x = y)))))
def excB (K : PySem.W.Frag) : Bool := (He.Fa.glo "PileError").ok K && eNames.all fun x => excOneB K x
structure XCls (K : PySem.W.Frag) (mg : Str → Option Value) (x : Str) : Prop where
  g : mg x = some (.ref (He.ga K x))
  inn : PySem.W.excIn K (He.ga K x) He.veBase "ValueError.__new__" = true
  kp : PySem.W.keepIn K (.ref (He.ga K x)) = true
  bs : PySem.W.subIn K (.ref (He.ga K x)) (.type "BaseException") = some true
  ty : PySem.W.typeIn K (.ref (He.ga K x)) = some (.type "type")
  ec : ExcC K (He.ga K x)
  pe : PySem.W.exmOne K (.ref (He.ga K x)) (.ref (He.ga K "PileError")) = some true
  ve : PySem.W.kitOne K (.ref (He.ga K x)) (.type "ValueError") = some true
  is : ∀ y ∈ eNames, PySem.W.kitOne K (.ref (He.ga K x)) (.ref (He.ga K y)) = some (decide (x = y))
theorem xcls_of {K : PySem.W.Frag} {h : Heap} {mg : Str → Option Value} (X : K.In h) (G : h.Ns mainGlobals mg) {x : Str} (c : excOneB K x = true) : XCls K mg x := by
  obtain ⟨c0, c3⟩ := He.ba c
  obtain ⟨c1, c2⟩ := He.ba c0
  obtain ⟨a1, a2⟩ := He.ba c1
  obtain ⟨e1, e2, e3, e4⟩ := He.exc_ok a2
  obtain ⟨b1, c2⟩ := He.ba c2
  obtain ⟨b2, c2⟩ := He.ba c2
  obtain ⟨b3, c2⟩ := He.ba c2
  obtain ⟨b4, c2⟩ := He.ba c2
  obtain ⟨b5, c2⟩ := He.ba c2
  obtain ⟨b6, b7⟩ := He.ba c2
  obtain ⟨d1, c3⟩ := He.ba c3
  obtain ⟨d2, d3⟩ := He.ba c3
  exact ⟨He.glo_ok X G a1, e1, e2, e3, e4, ⟨of_decide_eq_true b1, of_decide_eq_true b2, e3, b3, of_decide_eq_true b4, of_decide_eq_true b5, of_decide_eq_true b6, of_decide_eq_true b7⟩, of_decide_eq_true d1, of_decide_eq_true d2,
    fun y hy => of_decide_eq_true (List.all_eq_true.mp d3 y hy)⟩
theorem pe_cls {X : Cx} {K : PySem.W.Frag} {mg : Str → Option Value} {x : Str} {pos : Pos} (T : XCls K mg x) (e : X.mg = mg := by rfl) (h : Gl X x := by rfl) (hd : (x == ("__debug__" : Str)) = false := by decide) : PE X (.Name x pos) (tC (.ref (He.ga K x))) := by
  subst e
  exact pe_glob h T.g rfl hd
/-! the Hook: He's, with one Bool more -/
abbrev AlE : Type := He.AlD × Bool
def obsXE (n : Nat) (fa : List He.Fa) (fn : List He.DefD) (ex : PySem.W.Frag → Bool) (g : Addr → Option Obj) : AlE := (He.obsDG n fa fn g, ex (He.frG g (He.asD g n)))
def hookXE (n : Nat) (fa : List He.Fa) (fn : List He.DefD) (ex : PySem.W.Frag → Bool) : PySem.W.Hook where
  α := AlE
  obs := fun s => obsXE n fa fn ex s.heap.get?
  val := fun _ => (He.valD fn, true)
  says := fun _ h => ∃ K : PySem.W.Frag, K.In h ∧ He.SaysD fa fn K ∧ ex K = true
  of := fun _ _ e => ⟨_, He.frG_in, congrArg (fun z : AlE => z.1) e, congrArg (fun z : AlE => z.2) e⟩
  keeps := fun _ _ _ ⟨K, hK, c⟩ k => ⟨K, PySem.W.Frag.In.keeps hK k, c⟩
theorem obsXE_eq {n : Nat} {fa : List He.Fa} {fn : List He.DefD} {ex : PySem.W.Frag → Bool} {g : Addr → Option Obj} {s : Shared} (h : ∀ a, g a = s.heap.get? a) : obsXE n fa fn ex g = (hookXE n fa fn ex).obs s := by
  have e : g = s.heap.get? := funext h
  rw [e] <;> rfl
/-! ### a def that may raise, its calls -/
theorem takes_no {X : Cx} : L2N.Takes X (fun _ _ _ _ => False) := fun _ _ ⟨_, _, _, _, _, _, _, _, _, _, _, _, _, _, _, _, w⟩ => w.elim
theorem cal_mkX {P : Program} {w : World} {K : PySem.W.Frag} {mg : Str → Option Value} {base : Heap} {x : Str} {st : Stmt} {N ps : List Str} {k : Nat} {sp : Sp} (D : DefAt K mg x st) (S : FnScope N ps (defScope st)) (len : ∀ vs H Q E, sp vs H Q E → vs.length = ps.length)
    (hb : ∀ (kV doc pm : Value) (an : Option Addr) (cdv ct : Value) (us : List Value), us.length = ps.length → bindArgs (PySem.W.fnOf x x (defArgs st) (defBody st) (defScope st) .none kV doc pm an cdv ct) ⟨us, []⟩ = pure (ps.zip us))
    (hbody : ∀ (f : Addr) (cdv : Value) (A : Around) (outer : List Env) (s : Shared) (H : Hp) (vs : List V) (Q : VK) (E : XK), Room k (A.deeper (envOfC x (defScope st) s.heap.objs.size f cdv)) → sp vs H Q E →
      L2N.Takes (cxOf (L2N.CX P w) P w K mg base N x (defScope st) f cdv A outer s H E) (fun cls d _ H => E cls d H) →
      ∃ t, PSs (cxOf (L2N.CX P w) P w K mg base N x (defScope st) f cdv A outer s H E) (defBody st) t ∧ t { nx := fun _ H' => Q .non H', rt := Q } (start N vs) H) : Cal P w K mg base (L2N.CX P w) (k + 1) x ps sp := by
  obtain ⟨fd, F, g⟩ := D
  refine ⟨⟨_, fd, F.ok S len (fun cdv A outer s H vs Q E hr h => ?_), g, F.kp, F.bindsN hb⟩⟩
  exact hbody _ cdv A outer s H vs Q E hr h (L2N.takes_of rfl rfl rfl rfl)
theorem pe_callX {X : Cx} {W : WX} {k : Nat} {x : Str} {ps : List Str} {sp : Sp} {e : Expr} {es : List Expr} {t : TA} {p pos : Pos} (C : Cal X.prog X.w X.K X.mg X.base (L2N.CX X.prog X.w) k x ps sp) (tk : L2N.Takes X W) (hr : Room k X.A) (ha : PA X (e :: es) t) (hg : Gl X x := by rfl)
    (hdb : (x == ("__debug__" : Str)) = false := by decide) (he : starEach (e :: es) X.env = (false, eval e X.env) :: starEach es X.env := by rfl) (hpl : (backTo pos (starEach es X.env)).any (·.1) = false := by rfl) :
    PE X (.Call (.Name x p) (e :: es) [] pos) (tCallS sp (WE W) t) := by
  obtain ⟨f, fd, F, hm, hk, hb⟩ := C.ex
  exact pe_callS F hr hg hm hk hb (fun σ => L2N.passAt tk σ) ha hdb he hpl
theorem pmk_x {X : Cx} {x m : Str} {j : Nat} {p p2 pos : Pos} (T : XCls X.K X.mg x) (hg : Gl X x) (hdb : (x == ("__debug__" : Str)) = false := by decide) : L2N.PMk X (.Call (.Name x p) [.Constant (.str m) j p2] [] pos) (fun _ H Q => Q (.ref (He.ga X.K x)) none H) :=
  L2N.pmk_own PySem.F.excBase_ValueError T.inn T.g T.kp (raises_own T.bs T.ty) hg hdb
/-! ### a def called in the suite of an except clause: it may know the exception p -/
structure FnP (P : Program) (w : World) (K : PySem.W.Frag) (mg : Str → Option Value) (base : Heap) (CX : CXT) (k : Nat) (f : Addr) (fd : FuncData) (ps : List Str) (sp : Sp) (p : Addr × Obj) : Prop where
  len : ∀ vs H Q E, sp vs H Q E → vs.length = ps.length
  run : ∀ (A : Around) (outer : List Env) (s : Shared) (H : Hp) (args : Args) (us : List Value) (vs : List V) (Q : VK) (E : XK), L2H.RoomH k A → L2H.Hot1 A p → L2H.PinOk outer H s p → Env0 P w K mg base A outer s H → BindsTo s fd args (ps.zip us) → Vals vs us → sp vs H Q E →
    codeAny (model P w) A (.call (.ref f) args) (CR CX outer P w H s Q E) s
structure CalP (P : Program) (w : World) (K : PySem.W.Frag) (mg : Str → Option Value) (base : Heap) (CX : CXT) (k : Nat) (x : Str) (ps : List Str) (sp : Sp) (p : Addr × Obj) : Prop where
  ex : ∃ (f : Addr) (fd : FuncData), FnP P w K mg base CX k f fd ps sp p ∧ mg x = some (.ref f) ∧ PySem.W.keepIn K (.ref f) = true ∧ Binds K fd ps []
theorem cal_mkP {CX : CXT} {P : Program} {w : World} {K : PySem.W.Frag} {mg : Str → Option Value} {base : Heap} {x : Str} {st : Stmt} {N ps : List Str} {k : Nat} {sp : Sp} {p : Addr × Obj} (D : DefAt K mg x st) (S : FnScope N ps (defScope st)) (len : ∀ vs H Q E, sp vs H Q E → vs.length = ps.length)
    (hb : ∀ (kV doc pm : Value) (an : Option Addr) (cdv ct : Value) (us : List Value), us.length = ps.length → bindArgs (PySem.W.fnOf x x (defArgs st) (defBody st) (defScope st) .none kV doc pm an cdv ct) ⟨us, []⟩ = pure (ps.zip us))
    (hbody : ∀ (f : Addr) (cdv : Value) (A : Around) (outer : List Env) (s : Shared) (H : Hp) (vs : List V) (Q : VK) (E : XK), L2H.RoomH k (A.deeper (envOfC x (defScope st) s.heap.objs.size f cdv)) → sp vs H Q E →
      ∃ t, PSs (L2H.cxH CX P w K mg base N x (defScope st) f cdv A outer s H E p) (defBody st) t ∧ t { nx := fun _ H' => Q .non H', rt := Q } (start N vs) H) : CalP P w K mg base CX (k + 1) x ps sp p := by
  obtain ⟨fd, F, g⟩ := D
  have B := F.bindsN hb
  have kp := F.kp
  obtain ⟨oc, od, dV, kV, doc, pm, an, cdv, ct, osl, rfl, lk, hcd, _, _⟩ := F.ex
  refine ⟨⟨_, _, ⟨len, fun A outer s H args us vs Q E hr hot hpin e0 hbd r hsp => ?_⟩, g, kp, B⟩⟩
  have hl := len _ _ _ _ hsp
  have KX : K.In s.heap := e0.mod.kin.keeps fun b o e => (e0.bs b o e).1
  have lim : s.heap.NoLimit := e0.mod.nolimit.keeps fun b o e => (e0.bs b o e).1
  have hkind : ∀ y ∈ ps.zip us, (defScope st).names.lookup y.1 = some .local ∨ ((defScope st).names.lookup y.1 = some .cell ∧ ((cellsFrom (s.heap.objs.size + 1) (defScope st).names []).lookup y.1).isSome = true) := fun ⟨n, v⟩ hy => by
    rcases S.par n (List.of_mem_zip hy).1 with q | q
    · exact .inl q
    · exact .inr ⟨q, PySem.W.cellsFrom_some _ _ _ (.inl q)⟩
  refine codeAny_call_function hr.depth (KX _ _ lk) rfl S.co S.gen rfl (PySem.W.codeRec_of KX hcd) (hbd _ _ _ _ ?_)
  refine wpAny_newFunctionEnv_cells S.kind hkind fun env he s1 x1 => ?_
  subst he
  refine ⟨lim.keeps x1.toInCall.keep, codeAny_func ?_⟩
  obtain ⟨t, ht, hq⟩ := hbody _ cdv A outer s H vs Q E (hr.deeper _) hsp
  have I : Inv (L2H.cxH CX P w K mg base N x (defScope st) _ cdv A outer s H E p) [] (start N vs) H s1 := L2H.inv_startH S hpin e0 hl r x1
  refine wpAny_mono (ht.run [] s1 (start N vs) H _ I hq) (fun fl s' hs => ?_) fun e s' hs => hs
  cases fl with
  | ret u =>
    obtain ⟨v, σ', H', J, rv, q⟩ := hs
    exact ⟨v, H', J.os, J.bare, J.base, J.hok, rv, q⟩
  | next =>
    obtain ⟨σ', H', J, q⟩ := hs
    exact ⟨V.non, H', J.os, J.bare, J.base, J.hok, rfl, q⟩
  | brk =>
    obtain ⟨_, _, _, q⟩ := hs
    exact False.elim q
  | cont =>
    obtain ⟨_, _, _, q⟩ := hs
    exact False.elim q
theorem pe_callP {X : Cx} {k : Nat} {x : Str} {ps : List Str} {sp : Sp} {pn : Addr × Obj} {e : Expr} {es : List Expr} {t : TA} {p pos : Pos} (C : CalP X.prog X.w X.K X.mg X.base CX0 k x ps sp pn) (hr : L2H.RoomH k X.A) (hot : L2H.Hot1 X.A pn) (hp : pn ∈ X.pn) (ha : PA X (e :: es) t) (hg : Gl X x := by rfl)
    (hdb : (x == ("__debug__" : Str)) = false := by decide) (he : starEach (e :: es) X.env = (false, eval e X.env) :: starEach es X.env := by rfl) (hpl : (backTo pos (starEach es X.env)).any (·.1) = false := by rfl) :
    PE X (.Call (.Name x p) (e :: es) [] pos) (tCallS sp (fun _ => E0) t) := by
  obtain ⟨f, fd, F, hm, hk, hb⟩ := C.ex
  refine ⟨fun pins s σ H Q I h => ?_⟩
  refine wpAny_Call_Name_kw (ld_glob I hg hm ?_ hdb)
  refine PySem.W.callWith_K (h₀ := X.base) I.ok.mod.kin hk (thn (ha.run pos pins s σ H _ I h) fun us s1 ⟨vs, H1, I1, r, q⟩ => ⟨I1.kIn, ?_⟩) he hpl
  have hl : us.length = ps.length := by rw [← r.length]; exact F.len _ _ _ _ q
  have b := hb s1 us I1.kIn (by rw [List.append_nil]; exact hl)
  rw [List.append_nil] at b
  have P1 := I1.pin pn (List.mem_append_left _ hp)
  have hpin : L2H.PinOk X.stack H1 s1 pn := ⟨P1.1, P1.2.1, fun hm => (List.mem_cons.mp (I1.stkSub pn.1 hm)).elim P1.2.2.1 P1.2.2.2.1, P1.2.2.2.2⟩
  refine wpAny_call (codeAny_mono (F.run X.A X.stack s1 H1 ⟨us, []⟩ us vs Q E0 hr hot hpin I1.env0 b r q) fun r' s' hq => ?_)
  cases r' with
  | error e => exact False.elim hq
  | ok fl =>
    cases fl with
    | ret u => exact I1.after hq
    | next => exact False.elim hq
    | brk => exact False.elim hq
    | cont => exact False.elim hq
/-- the suite's exception -/
theorem hot_suite {X : Cx} {a : Addr} {oe : Obj} {pn : List (Addr × Obj)} {cls : Value} {d : Option Addr} (hz : L2N.Zn cls d oe) (hf : ∃ vs, oe.data = .fields vs) : L2H.Hot1 (X.suite a ((a, oe) :: pn)).A (a, oe) := by
  obtain ⟨vs, e⟩ := hf
  exact ⟨rfl, vs, e, hz.2.2 vs e⟩
theorem roomH_suite {k : Nat} {A : Around} (r : Room k A) (h : Option Value) : L2H.RoomH k (A.mark h) := ⟨r.dp, r.un⟩
/-- isinstance(e, c), e the pinned exception -/
theorem call_isP {X : Cx} {a D : Addr} {oe : Obj} (C : ExcC X.K D) (hz : Zc (.ref D) none oe) (hf : ∃ vs, oe.data = .fields vs) (hp : (a, oe) ∈ X.pn) : CallR X (.builtin "isinstance") (rIsE X.K D a) := by
  intro pins s σ H xs us Q I r h
  obtain ⟨c, cv, b, rfl, hcv, e, q⟩ := h
  cases r with
  | cons rx rr =>
    cases rr with
    | cons rt rr =>
      cases rr
      cases rx
      have ec := hcv _ rt
      subst ec
      obtain ⟨hget, _⟩ := I.pin (a, oe) (List.mem_append_left _ hp)
      obtain ⟨vs, hv⟩ := hf
      have J : PySem.W.InstAt s.heap a oe D none := by
        obtain ⟨oc, od, oda, osl⟩ := oe
        obtain ⟨h1, h2⟩ := hz
        dsimp only at h1 h2 hv
        subst h1 h2 hv
        exact ⟨hget, rfl, rfl, trivial⟩
      exact PySem.W.kia_one (PySem.W.handS_kitx_exc C.hg C.hk C.hs C.hd C.ha C.hn C.ht C.hm) I.kIn J e (fun z => by cases z) fun tk => ⟨.bl b, H, I.kept (t' := tk) fun _ _ z => z, rfl, q⟩
/-- list.count of flat values -/
def rCntF (K : PySem.W.Frag) : V → List V → Hp → VK → Prop := fun x xs H Q => ∃ (p : Addr) (ys : List V) (y : V), x = .ref p ∧ xs = [y] ∧ SqL K H p ys ∧ flatV y = true ∧ ys.all flatV = true ∧ Q (.int (ys.countP fun z => eqV z y : Nat)) H
theorem countP_eqU {x : V} : ∀ {xs : List V} {us : List Value}, Vals xs us → xs.all flatV = true → us.countP (eqU x) = xs.countP fun y => eqV y x
  | _, _, .nil, _ => rfl
  | y :: xs, u :: us, .cons r t, f => by
    rw [List.all_cons, Bool.and_eq_true] at f
    rw [List.countP_cons, List.countP_cons, countP_eqU t f.2, eqU_of r f.1]
theorem mt_fcount {X : Cx} : MtR X "list.count" (rCntF X.K) := by
  intro pins s σ H x xs v us Q I rx rxs h
  obtain ⟨p, ys, y, rfl, rfl, hs, fy, fys, q⟩ := h
  cases rx
  obtain ⟨u, rfl, ru⟩ := rxs.one
  obtain ⟨its, rv, ⟨⟨cls, dd, data, sl⟩, n, ho, hc, hdn, hd⟩, hlen⟩ := I.list hs
  simp only at hc hd
  subst hc hd
  refine call_meets PySem.F.slot_list_count ⟨_, ho, rfl⟩ PySem.F.entry_list_count (PySem.F.args_list_count_2 _ _)
    (SeqAt.list_countAt p its.toArray n dd sl u (eqU y)) ⟨ho, fun z hz => mem_eqAt ru fy rv fys z (by simpa using hz), ?_⟩
  refine ⟨.int (ys.countP fun z => eqV z y : Nat), H, I.tok _, ⟨s.toks, ?_⟩, q⟩
  show Value.int ((its.toArray.toList.countP (eqU y) : Nat) : Int) s.toks = _
  rw [show its.toArray.toList = its by simp, countP_eqU rv fys]

/-! ### the text -/
def top (i : Nat) : Stmt := PySem.Challenge.pw_pilewheel_k17_numbers_out_of_bounds.main.body.getD i (.Pass ⟨0, 0, 0, 0⟩)
abbrev s_is_setting : Stmt := top 10
abbrev s_must_be : Stmt := top 11
abbrev s_turned_by : Stmt := top 12
abbrev s_after : Stmt := top 13
abbrev s_stair_of : Stmt := top 15
abbrev s_marks_by : Stmt := top 16
abbrev s_setting_by : Stmt := top 17
abbrev s_ring_by : Stmt := top 18
abbrev s_must_count : Stmt := top 20
abbrev s_settings_by : Stmt := top 21
abbrev s_settings_of : Stmt := top 22
abbrev s_chosen : Stmt := top 23
abbrev s_common : Stmt := top 24
abbrev s_rings_many : Stmt := top 25
abbrev s_all_marks : Stmt := top 26
abbrev s_rings_of : Stmt := top 27
abbrev s_drawn_in : Stmt := top 28
abbrev s_law_cell : Stmt := top 30
abbrev s_law_next : Stmt := top 31
abbrev s_law_fallen : Stmt := top 32
abbrev s_law_turned : Stmt := top 33
abbrev s_law_stair : Stmt := top 34
abbrev s_law_by_marks : Stmt := top 35
abbrev s_law_drawn_marks : Stmt := top 36
abbrev s_law_elder : Stmt := top 37
abbrev s_law_drawn_piles : Stmt := top 38
abbrev s_law_setting : Stmt := top 39
abbrev s_law_which : Stmt := top 40
abbrev s_law_asked : Stmt := top 41
abbrev s_law_met : Stmt := top 42
abbrev s_law_turns_met : Stmt := top 43
abbrev s_law : Stmt := top 44
structure Txt (K : PySem.W.Frag) (mg : Str → Option Value) : Prop where
  d_is_setting : DefAt K mg "is_setting" s_is_setting
  d_must_be : DefAt K mg "must_be" s_must_be
  d_turned_by : DefAt K mg "turned_by" s_turned_by
  d_after : DefAt K mg "after" s_after
  d_stair_of : DefAt K mg "stair_of" s_stair_of
  d_marks_by : DefAt K mg "marks_by" s_marks_by
  d_setting_by : DefAt K mg "setting_by" s_setting_by
  d_ring_by : DefAt K mg "ring_by" s_ring_by
  d_must_count : DefAt K mg "must_count" s_must_count
  d_settings_by : DefAt K mg "settings_by" s_settings_by
  d_settings_of : DefAt K mg "settings_of" s_settings_of
  d_chosen : DefAt K mg "chosen" s_chosen
  d_common : DefAt K mg "common" s_common
  d_rings_many : DefAt K mg "rings_many" s_rings_many
  d_all_marks : DefAt K mg "all_marks" s_all_marks
  d_rings_of : DefAt K mg "rings_of" s_rings_of
  d_drawn_in : DefAt K mg "drawn_in" s_drawn_in
  d_law_cell : DefAt K mg "_law_cell" s_law_cell
  d_law_next : DefAt K mg "_law_next" s_law_next
  d_law_fallen : DefAt K mg "_law_fallen" s_law_fallen
  d_law_turned : DefAt K mg "_law_turned" s_law_turned
  d_law_stair : DefAt K mg "_law_stair" s_law_stair
  d_law_by_marks : DefAt K mg "_law_by_marks" s_law_by_marks
  d_law_drawn_marks : DefAt K mg "_law_drawn_marks" s_law_drawn_marks
  d_law_elder : DefAt K mg "_law_elder" s_law_elder
  d_law_drawn_piles : DefAt K mg "_law_drawn_piles" s_law_drawn_piles
  d_law_setting : DefAt K mg "_law_setting" s_law_setting
  d_law_which : DefAt K mg "_law_which" s_law_which
  d_law_asked : DefAt K mg "_law_asked" s_law_asked
  d_law_met : DefAt K mg "_law_met" s_law_met
  d_law_turns_met : DefAt K mg "_law_turns_met" s_law_turns_met
  c_MOST : ∃ u, mg "MOST" = some u ∧ RelV (.int 100) u
  c_MOST_TURNS : ∃ u, mg "MOST_TURNS" = some u ∧ RelV (.int 100000000000000000000000000000) u
  m_ValueError : mg "ValueError" = none
  m_int : mg "int" = none
  m_isinstance : mg "isinstance" = none
  m_len : mg "len" = none
  m_list : mg "list" = none
  m_min : mg "min" = none
  m_range : mg "range" = none
  m_reversed : mg "reversed" = none
  m_sorted : mg "sorted" = none
  m_sum : mg "sum" = none
  m_tuple : mg "tuple" = none
  xc : ∀ x ∈ eNames, XCls K mg x
  g_PileError : mg "PileError" = some (.ref (He.ga K "PileError"))

section
variable {P : Program} {w : World} {K : PySem.W.Frag} {mg : Str → Option Value} {base : Heap}
theorem sc_stair_of : FnScope ["coins", "stair"] ["coins"] (defScope s_stair_of) := ⟨rfl, rfl, rfl, by decide +kernel, rfl, by decide +kernel, by decide +kernel⟩
def sp_stair_of : Sp := fun vs H Q _ => ∃ n : Nat, vs = [.int n] ∧ 1 ≤ n ∧ n ≤ 100000 ∧ Q (.int (stair n)) H
theorem ok_stair_of (T : Txt K mg) : Cal P w K mg base CX0 1 "stair_of" ["coins"] sp_stair_of := by
  refine cal_mk T.d_stair_of sc_stair_of ?_ (fun _ _ _ _ _ _ us hl => match us, hl with | [_], _ => rfl) (fun f cdv A outer s H vs Q E hr h => ?_)
  · intro vs H Q E h
    obtain ⟨n, rfl, _⟩ := h
    rfl
  obtain ⟨n, rfl, h1, h2, q⟩ := h
  refine ⟨_, (pss_cons (ps_set (i := 1) sc_stair_of.nd rfl (Or.inl rfl) pe_int)
      (pss_cons (ps_while PassesOwn.never (pt_cmpR op_lt (pe_op op_fdiv (pe_op op_mul (pv 1) (pe_op op_add (pv 1) pe_int)) pe_int) (pv 0) (nomark _))
      (pss_one (ps_set (i := 1) sc_stair_of.nd rfl (Or.inl rfl) (pe_op op_add (pv 1) pe_int))))
      (pss_one (ps_ret (pv 1))))), ?_⟩
  refine ⟨fun m σ H' => ∃ s : Nat, σ = [some (.int n), some (.int s)] ∧ H' = H ∧ m = 2 * n + 2 - s ∧ 1 ≤ s ∧ (s - 1) * s < 2 * n, ⟨_, 1, rfl, rfl, rfl, Nat.le_refl _, by omega⟩, fun m σ H' hW => ?_⟩
  obtain ⟨s, rfl, rfl, rfl, g1, g2⟩ := hW
  have g3 : s ≤ 2 * n + 1 := by
    have := Nat.mul_le_mul_left (s - 1) g1
    omega
  have hh := half_sq s
  refine ⟨_, rfl, _, rfl, _, _, rfl, rfl, _, _, rfl, rfl, .inl ⟨by omega, by omega⟩, _, _, rfl, rfl, ⟨by decide, by decide⟩, _, rfl, _, _, rfl, rfl, _, rfl, ite2 (fun c => ?_) (fun c => ?_)⟩
  · have c' : (s : Int) * ((s : Int) + 1) / 2 < (n : Int) := of_decide_eq_true c
    have c1 : ((s * (s + 1) / 2 : Nat) : Int) < (n : Int) := c'
    have c2 : s * (s + 1) < 2 * n := by omega
    refine ⟨fun σ' H2 => ∃ s' : Nat, s' = s + 1 ∧ σ' = [some (.int n), some (.int s')] ∧ H2 = H', fun σ' H2 h => ?_, ?_⟩
    · obtain ⟨s', rfl, e1, e2⟩ := h
      exact ⟨2 * n + 2 - (s + 1), by omega, s + 1, e1, e2, rfl, by omega, by rw [Nat.add_sub_cancel]; exact c2⟩
    · exact ⟨_, rfl, _, _, rfl, rfl, s + 1, rfl, rfl, rfl⟩
  · have c' : ¬ (s : Int) * ((s : Int) + 1) / 2 < (n : Int) := fun h => c (decide_eq_true h)
    have c1 : ¬ ((s * (s + 1) / 2 : Nat) : Int) < (n : Int) := c'
    have c2 : 2 * n ≤ s * (s + 1) := by omega
    rw [← stair_uniq h1 g1 g2 c2] at q
    exact ⟨_, rfl, q⟩

end

section
variable {P : Program} {w : World} {K : PySem.W.Frag} {mg : Str → Option Value} {base : Heap}
theorem sc_turned_by : FnScope ["piles", "rest", "pile", "fresh", "at"] ["piles"] (defScope s_turned_by) := ⟨rfl, rfl, rfl, by decide +kernel, rfl, by decide +kernel, by decide +kernel⟩
def sp_turned_by : Sp := fun vs H Q _ => ∃ (a : Addr) (ns : List Int), vs = [.ref a] ∧ IL H a ns ∧ ns.length ≤ 1000 ∧ NL Q H (turn ns)
theorem ok_turned_by (T : Txt K mg) : Cal P w K mg base CX0 1 "turned_by" ["piles"] sp_turned_by := by
  refine cal_mk T.d_turned_by sc_turned_by ?_ (fun _ _ _ _ _ _ us hl => match us, hl with | [_], _ => rfl) (fun f cdv A outer s H vs Q E hr h => ?_)
  · intro vs H Q E h
    obtain ⟨a, ns, rfl, _⟩ := h
    rfl
  obtain ⟨a, ns, rfl, hS, hl, q⟩ := h
  refine ⟨_, (pss_cons (ps_setLc (i := 1) (own := [("pile", 2)]) (g := gName 2) rfl sc_turned_by.nd rfl rfl (sw_true rfl rfl rfl (by decide +kernel)) (pi_list (pv 0)) (blkOk_by (own := [("pile", 2)]) (N := ["piles", "rest", "pile", "fresh", "at"]) (sc := defScope s_turned_by) (by decide +kernel)) (fun _ _ _ _ _ => pg_name (i := 2) sc_turned_by.nd rfl (Or.inl rfl)) (fun _ _ _ _ _ => (pts_one (pt_cmpR op_gt (pv 2) pe_int (nomark _)))) (fun _ _ _ _ _ => (pe_op op_sub (pv 2) pe_int)))
      (pss_cons (ps_set (i := 3) sc_turned_by.nd rfl (Or.inl rfl) (pe_callB call_len_seq (by rfl) T.m_len PySem.boot_len (pa_cons (pv 0) pa_nil)))
      (pss_cons (ps_set (i := 4) sc_turned_by.nd rfl (Or.inl rfl) pe_int)
      (pss_cons (ps_while PassesOwn.never (PW.pt (pw_and (pt_cmpR op_lt (pv 4) (pe_callB call_len_seq (by rfl) T.m_len PySem.boot_len (pa_cons (pv 1) pa_nil)) (nomark _)) (pw_and1 (pt_cmpR op_gt (pe_ix ix_list (pv 1) (pv 4) (fun _ _ => rfl)) (pv 3) (nomark _)))))
      (pss_one (ps_set (i := 4) sc_turned_by.nd rfl (Or.inl rfl) (pe_op op_add (pv 4) pe_int))))
      (pss_cons (ps_expr (pe_bm PySem.F.plainAttrs_list PySem.F.slot_list_insert PySem.F.type_list_insert mt_insert (pv 1) (pa_cons (pv 4) (pa_cons (pv 3) pa_nil))))
      (pss_one (ps_ret (pv 1)))))))), ?_⟩
  refine ⟨_, rfl, a, rfl, ⟨_, sq hS⟩, fun D nD => lc_list (K := K) (a := a) (xs := ns.map V.int) (fun i H' => Same H H' ∧ IL H' D (down1 (ns.take i))) ⟨same_new nD _, upd_same⟩ (fun i H' _ h => sq (h.1 _ _ hS)) ?_ ?_⟩
  · intro i x H' hx h
    obtain ⟨z, hz, rfl⟩ := get_int hx
    obtain ⟨sm, eD⟩ := h
    refine ⟨rfl, .int z, rfl, _, _, rfl, rfl, _, rfl, ?_⟩
    have ed : down1 (ns.take (i + 1)) = down1 (ns.take i) ++ (if z > 1 then [z - 1] else []) := by
      rw [take_snoc hz]
      unfold down1
      rw [List.filter_append, List.map_append]
      congr 1
      by_cases c : z > 1
      · rw [if_pos c, List.filter_cons, if_pos (decide_eq_true c)] <;> rfl
      · rw [if_neg c, List.filter_cons, if_neg (by simp only [decide_eq_true_eq]; exact c)] <;> rfl
    rw [ed]
    refine ite2 (fun c => ?_) (fun c => ?_)
    · have c' : z > 1 := of_decide_eq_true c
      rw [if_pos c']
      refine ⟨.int z, rfl, _, _, rfl, rfl, _, eD, ?_, same_mut sm nD _, ?_⟩
      · rw [nlen]
        have := down1_length (ns.take i)
        rw [List.length_take] at this
        exact smallL (by omega)
      · show upd _ _ _ _ = _
        rw [upd_same, List.map_append] <;> rfl
    · have c' : ¬ z > 1 := fun h => c (decide_eq_true h)
      rw [if_neg c', List.append_nil]
      exact ⟨sm, eD⟩
  · intro H1 h
    obtain ⟨sm, eD⟩ := h
    rw [nlen, List.take_length] at eD
    have hdl := down1_length ns
    refine ⟨_, rfl, a, _, rfl, .inl (sq (sm _ _ hS)), ?_⟩
    rw [nlen]
    generalize hrs : down1 ns = rs at *
    refine ⟨fun m σ H' => ∃ j : Nat, σ = [some (.ref a), some (.ref D), none, some (.int ns.length), some (.int j)] ∧ H' = H1 ∧ m = rs.length - j ∧ j ≤ rs.length ∧ ∀ i y, i < j → rs[i]? = some y → y > (ns.length : Int),
      ⟨_, 0, rfl, rfl, rfl, Nat.zero_le _, fun i y h => by omega⟩, fun m σ H' hW => ?_⟩
    obtain ⟨j, rfl, rfl, rfl, hj, hall⟩ := hW
    have fin : (∀ y, rs[j]? = some y → ¬ y > (ns.length : Int)) → NL Q H (rs.take j ++ [(ns.length : Int)] ++ rs.drop j) := fun h2 => by
      have := insD_at hj hall h2
      unfold turn at q
      rw [hrs, this] at q
      exact q
    have out : (∀ y, rs[j]? = some y → ¬ y > (ns.length : Int)) → Q (.ref D) (upd H' D (.lst ((rs.map V.int).take (j : Int).toNat ++ [V.int ns.length] ++ (rs.map V.int).drop (j : Int).toNat))) := fun h2 => by
      refine fin h2 _ D (same_mut sm nD _) nD ?_
      show upd _ _ _ _ = _
      rw [upd_same, Int.toNat_natCast, List.map_append, List.map_append, List.map_take, List.map_drop] <;> rfl
    refine ⟨_, rfl, _, rfl, D, _, rfl, .inl (sq eD), _, _, rfl, rfl, _, rfl, ite2 (fun c => ?_) (fun c => ?_)⟩
    · have c' : (j : Int) < ((rs.map V.int).length : Int) := of_decide_eq_true c
      rw [nlen] at c'
      have hjl : j < rs.length := by omega
      have gj : rs[j]? = some rs[j] := List.getElem?_eq_getElem hjl
      refine ⟨_, rfl, _, rfl, D, _, _, .int rs[j], rfl, rfl, sq eD, at_of (j := j) rfl (int_get gj), _, rfl, _, _, rfl, rfl, _, rfl, ite2 (fun d => ?_) (fun d => ?_)⟩
      · have d' : (ns.length : Int) < rs[j] := of_decide_eq_true d
        refine ⟨fun σ' H2 => ∃ j' : Nat, j' = j + 1 ∧ σ' = [some (.ref a), some (.ref D), none, some (.int ns.length), some (.int j')] ∧ H2 = H', fun σ' H2 h => ?_, ?_⟩
        · obtain ⟨j', rfl, e1, e2⟩ := h
          refine ⟨rs.length - (j + 1), by omega, j + 1, e1, e2, rfl, by omega, fun i y hi hy => ?_⟩
          rcases Nat.lt_or_ge i j with l | l
          · exact hall i y l hy
          · obtain rfl : i = j := by omega
            rw [gj] at hy
            have := Option.some.inj hy
            omega
        · exact ⟨_, rfl, _, _, rfl, rfl, j + 1, rfl, rfl, rfl⟩
      · have d' : ¬ (ns.length : Int) < rs[j] := fun h => d (decide_eq_true h)
        refine ⟨_, rfl, Or.inl ⟨rfl, _, sq eD⟩, _, rfl, _, rfl, D, rs.map V.int, _, _, rfl, rfl, eD, by rw [nlen]; exact smallL (by omega), by omega, by omega, ?_⟩
        refine ⟨_, rfl, out fun y hy => ?_⟩
        rw [gj] at hy
        have := Option.some.inj hy
        omega
    · have c' : ¬ (j : Int) < ((rs.map V.int).length : Int) := fun h => c (decide_eq_true h)
      rw [nlen] at c'
      refine ⟨_, rfl, Or.inl ⟨rfl, _, sq eD⟩, _, rfl, _, rfl, D, rs.map V.int, _, _, rfl, rfl, eD, by rw [nlen]; exact smallL (by omega), by omega, by omega, ?_⟩
      refine ⟨_, rfl, out fun y hy => ?_⟩
      have := (List.getElem?_eq_some_iff.mp hy).1
      omega

end

section
variable {P : Program} {w : World} {K : PySem.W.Frag} {mg : Str → Option Value} {base : Heap}
theorem sc_marks_by : FnScope ["piles", "stair", "found", "k", "pile", "mark"] ["piles"] (defScope s_marks_by) := ⟨rfl, rfl, rfl, by decide +kernel, rfl, by decide +kernel, by decide +kernel⟩
theorem marksAt_len (S : Nat) (ns : List Int) : (marksAt S ns).length = S := by
  unfold marksAt
  rw [List.length_map, List.length_range]
theorem marksAt_get {S : Nat} {ns : List Int} {k : Nat} (h : k < S) : (marksAt S ns)[k]? = some (ns.getD k 0 - ((S : Int) - 1 - (k : Int))) := by
  unfold marksAt
  rw [List.getElem?_map, List.getElem?_range h] <;> rfl
def sp_marks_by : Sp := fun vs H Q _ => ∃ (a : Addr) (ns : List Int), vs = [.ref a] ∧ IL H a ns ∧ Good ns ∧ ns.sum ≤ 100 ∧ NL Q H (marksBy ns)
theorem ok_marks_by (T : Txt K mg) : Cal P w K mg base CX0 2 "marks_by" ["piles"] sp_marks_by := by
  have C_stair_of := ok_stair_of (P := P) (w := w) (base := base) T
  refine cal_mk T.d_marks_by sc_marks_by ?_ (fun _ _ _ _ _ _ us hl => match us, hl with | [_], _ => rfl) (fun f cdv A outer s H vs Q E hr h => ?_)
  · intro vs H Q E h
    obtain ⟨a, ns, rfl, _⟩ := h
    rfl
  obtain ⟨a, ns, rfl, hS, hg, hs, q⟩ := h
  have hll := len_le_sum hg.pos
  have hne := List.length_pos_iff.mpr hg.ne
  refine ⟨_, (pss_cons (ps_set (i := 1) sc_marks_by.nd rfl (Or.inl rfl) (pe_callF C_stair_of (hr.mono (by decide)) (pa_cons (pe_callB (cr_sum rfl) (by rfl) T.m_sum (by decide +kernel) (pa_cons (pv 0) pa_nil)) pa_nil)))
      (pss_cons (ps_if (pt_cmpR op_gt (pe_callB call_len_seq (by rfl) T.m_len PySem.boot_len (pa_cons (pv 0) pa_nil)) (pv 1) (nomark _))
      (pss_one (ps_ret (pe_lst pa_nil))) pss_nil)
      (pss_cons (ps_set (i := 2) sc_marks_by.nd rfl (Or.inl rfl) (pe_lst pa_nil))
      (pss_cons (ps_for PassesOwn.never rfl (pi_range1 (by rfl) T.m_range (pa_cons (pv 1) pa_nil)) (pg_name (i := 3) sc_marks_by.nd rfl (Or.inl rfl))
      (pss_cons (ps_set (i := 4) sc_marks_by.nd rfl (Or.inl rfl) pe_int)
      (pss_cons (ps_if (pt_cmpR op_lt (pv 3) (pe_callB call_len_seq (by rfl) T.m_len PySem.boot_len (pa_cons (pv 0) pa_nil)) (nomark _))
      (pss_one (ps_set (i := 4) sc_marks_by.nd rfl (Or.inl rfl) (pe_ix ix_list (pv 0) (pv 3) (fun _ _ => rfl)))) pss_nil)
      (pss_cons (ps_set (i := 5) sc_marks_by.nd rfl (Or.inl rfl) (pe_op op_sub (pv 4) (pe_op op_sub (pe_op op_sub (pv 1) pe_int) (pv 3))))
      (pss_cons (ps_if (PW.pt (pw_or (pt_cmpR op_lt (pv 5) pe_int (nomark _)) (pw_or1 (pt_cmpR op_gt (pv 5) pe_int (nomark _)))))
      (pss_one (ps_ret (pe_lst pa_nil))) pss_nil)
      (pss_one (ps_expr (pe_bm PySem.F.plainAttrs_list PySem.F.slot_list_append PySem.F.type_list_append mt_append (pv 2) (pa_cons (pv 5) pa_nil)))))))))
      (pss_one (ps_ret (pv 2))))))), ?_⟩
  obtain ⟨n, en⟩ : ∃ n : Nat, ns.sum = n := ⟨ns.sum.toNat, by omega⟩
  refine ⟨_, rfl, a, ns, rfl, sq hS, n, congrArg (fun z => [V.int z]) en, by omega, by omega, ?_⟩
  have hst := stair_le (n := n) (by omega) (b := 14) (by omega) (by omega)
  have hst1 := (stair_spec (n := n) (by omega)).1
  unfold marksBy at q
  rw [en, Int.toNat_natCast] at q
  generalize stair n = S at *
  refine ⟨_, rfl, a, _, rfl, .inl (sq hS), _, rfl, _, _, rfl, rfl, _, rfl, ite2 (fun c => ?_) (fun c => ?_)⟩
  · have c' : (S : Int) < ((ns.map V.int).length : Int) := of_decide_eq_true c
    rw [nlen] at c'
    rw [if_pos (by omega)] at q
    exact ⟨Nat.zero_le _, fun p np => q _ p (same_new np _) np upd_same⟩
  · have c' : ¬ (S : Int) < ((ns.map V.int).length : Int) := fun h => c (decide_eq_true h)
    rw [nlen] at c'
    rw [if_neg (by omega)] at q
    refine ⟨Nat.zero_le _, fun D nD => ⟨_, rfl, S, rfl, by omega, by omega, for_range (lo := 0) (n := (S : Int).toNat) (fun i σ H' => ∃ y1 y2 y3, σ = [some (.ref a), some (.int S), some (.ref D), y1, y2, y3] ∧ Same H H' ∧ IL H' D ((marksAt S ns).take i) ∧ ∀ m ∈ (marksAt S ns).take i, 0 ≤ m ∧ m ≤ 1) ⟨none, none, none, rfl, same_new nD _, upd_same, fun m hm => by cases hm⟩ ?_ ?_⟩⟩
    · intro i σ H' hi h
      obtain ⟨y1, y2, y3, rfl, sm, eD, hall⟩ := h
      have hi : i < S := by omega
      have gm := marksAt_get (ns := ns) hi
      have bad : (¬ (0 ≤ ns.getD i 0 - ((S : Int) - 1 - (i : Int)) ∧ ns.getD i 0 - ((S : Int) - 1 - (i : Int)) ≤ 1)) → NL Q H [] := fun hb => by
        rw [if_neg] at q
        · exact q
        · intro e
          have := isBits_iff.mp e _ (List.mem_of_getElem? gm)
          omega
      -- pile
      have hlm : ((marksAt S ns).take i).length = i := by
        rw [List.length_take, marksAt_len]
        omega
      have hnext : ∀ m ∈ (marksAt S ns).take i ++ [ns.getD i 0 - ((S : Int) - 1 - (i : Int))], 0 ≤ ns.getD i 0 - ((S : Int) - 1 - (i : Int)) → ns.getD i 0 - ((S : Int) - 1 - (i : Int)) ≤ 1 → 0 ≤ m ∧ m ≤ 1 := fun m hm h0 h1 => by
        rcases List.mem_append.mp hm with hm | hm
        · exact hall m hm
        · rw [List.mem_singleton.mp hm]
          exact ⟨h0, h1⟩
      refine ⟨_, rfl, _, rfl, a, _, rfl, .inl (sq (sm _ _ hS)), _, _, rfl, rfl, _, rfl, ite2 (fun c => ?p1) (fun c => ?p2)⟩
      case' p1 =>
        have ci : (0 : Int) + (i : Int) < ((ns.map V.int).length : Int) := of_decide_eq_true c
        rw [nlen] at ci
        have hil : i < ns.length := by omega
        have gi : ns[i]? = some ns[i] := List.getElem?_eq_getElem hil
        have ep : ns[i] = ns.getD i 0 := by rw [List.getD_eq_getElem?_getD, gi] <;> rfl
        refine ⟨_, rfl, _, rfl, a, _, _, .int ns[i], rfl, rfl, sq (sm _ _ hS), at_of (j := i) (by omega) (int_get gi), ?_⟩
      case' p2 =>
        have ci : ¬ (0 : Int) + (i : Int) < ((ns.map V.int).length : Int) := fun h => c (decide_eq_true h)
        rw [nlen] at ci
        have ep : (0 : Int) = ns.getD i 0 := by rw [List.getD_eq_getElem?_getD, List.getElem?_eq_none (by omega)] <;> rfl
      all_goals
        refine ⟨_, rfl, _, rfl, _, _, rfl, rfl, _, rfl, _, _, rfl, rfl, _, _, rfl, rfl, ?_⟩
        refine ⟨_, rfl, _, _, rfl, rfl, _, rfl, ite2 (fun d => ?_) (fun d => ⟨_, rfl, _, _, rfl, rfl, _, rfl, ite2 (fun e => ?_) (fun e => ?_)⟩)⟩
        · refine ⟨Nat.zero_le _, fun p np => bad ?_ _ p (sm.trans (same_new np _)) (sm.free np) upd_same⟩
          intro hb
          have d1 := of_decide_eq_true d
          first
            | (have d2 : ns[i] - ((S : Int) - 1 - (0 + (i : Int))) < 0 := d1; omega)
            | (have d2 : (0 : Int) - ((S : Int) - 1 - (0 + (i : Int))) < 0 := d1; omega)
        · refine ⟨Nat.zero_le _, fun p np => bad ?_ _ p (sm.trans (same_new np _)) (sm.free np) upd_same⟩
          intro hb
          have d1 := of_decide_eq_true e
          first
            | (have d2 : (1 : Int) < ns[i] - ((S : Int) - 1 - (0 + (i : Int))) := d1; omega)
            | (have d2 : (1 : Int) < (0 : Int) - ((S : Int) - 1 - (0 + (i : Int))) := d1; omega)
        · have ev : ∀ z : Int, z = ns.getD i 0 → z - ((S : Int) - 1 - (0 + (i : Int))) = ns.getD i 0 - ((S : Int) - 1 - (i : Int)) := fun z hz => by omega
          have h0 : 0 ≤ ns.getD i 0 - ((S : Int) - 1 - (i : Int)) := by
            have d1 := fun h => d (decide_eq_true h)
            first
              | (have d2 : ¬ ns[i] - ((S : Int) - 1 - (0 + (i : Int))) < 0 := d1; omega)
              | (have d2 : ¬ (0 : Int) - ((S : Int) - 1 - (0 + (i : Int))) < 0 := d1; omega)
          have h1 : ns.getD i 0 - ((S : Int) - 1 - (i : Int)) ≤ 1 := by
            have d1 := fun h => e (decide_eq_true h)
            first
              | (have d2 : ¬ (1 : Int) < ns[i] - ((S : Int) - 1 - (0 + (i : Int))) := d1; omega)
              | (have d2 : ¬ (1 : Int) < (0 : Int) - ((S : Int) - 1 - (0 + (i : Int))) := d1; omega)
          refine ⟨_, rfl, .inl ⟨rfl, _, sq eD⟩, _, rfl, D, _, _, rfl, rfl, eD, by rw [nlen, hlm]; exact smallL (by omega), ?_⟩
          refine ⟨_, _, _, rfl, same_mut sm nD _, ?_, fun m hm => ?_⟩
          · show upd _ _ _ _ = _
            rw [upd_same, take_snoc gm, List.map_append, ← ev _ ep] <;> rfl
          · rw [take_snoc gm] at hm
            exact hnext m hm h0 h1
    · intro σ H' h
      obtain ⟨y1, y2, y3, rfl, sm, eD, hall⟩ := h
      rw [Int.toNat_natCast, List.take_of_length_le (by rw [marksAt_len]; exact Nat.le_refl _)] at eD hall
      rw [if_pos (isBits_iff.mpr fun m hm => by have := hall m hm; omega)] at q
      exact ⟨_, rfl, q H' D sm nD eD⟩

end

section
variable {P : Program} {w : World} {K : PySem.W.Frag} {mg : Str → Option Value} {base : Heap}
theorem sc_setting_by : FnScope ["marks", "piles", "k", "pile"] ["marks"] (defScope s_setting_by) := ⟨rfl, rfl, rfl, by decide +kernel, rfl, by decide +kernel, by decide +kernel⟩
def sp_setting_by : Sp := fun vs H Q _ => ∃ (a : Addr) (ms : List Int), vs = [.ref a] ∧ IL H a ms ∧ ms.length ≤ 1000 ∧ NL Q H (ofMarks ms)
theorem ok_setting_by (T : Txt K mg) : Cal P w K mg base CX0 1 "setting_by" ["marks"] sp_setting_by := by
  refine cal_mk T.d_setting_by sc_setting_by ?_ (fun _ _ _ _ _ _ us hl => match us, hl with | [_], _ => rfl) (fun f cdv A outer s H vs Q E hr h => ?_)
  · intro vs H Q E h
    obtain ⟨a, ms, rfl, _⟩ := h
    rfl
  obtain ⟨a, ms, rfl, hS, hl, q⟩ := h
  refine ⟨_, (pss_cons (ps_setLc (i := 1) (own := [("k", 2)]) (g := gName 2) rfl sc_setting_by.nd rfl rfl (sw_true rfl rfl rfl (by decide +kernel)) (pi_range1 (by rfl) T.m_range (pa_cons (pe_callB call_len_seq (by rfl) T.m_len PySem.boot_len (pa_cons (pv 0) pa_nil)) pa_nil)) (blkOk_by (own := [("k", 2)]) (N := ["marks", "piles", "k", "pile"]) (sc := defScope s_setting_by) (by decide +kernel)) (fun _ _ _ _ _ => pg_name (i := 2) sc_setting_by.nd rfl (Or.inl rfl)) (fun _ _ _ _ _ => pts_nil) (fun _ _ _ _ _ => (pe_op op_add (pe_op op_sub (pe_op op_sub (pe_callB (call_len_seqK K) (by rfl) T.m_len PySem.boot_len (pa_cons (pv 0) pa_nil)) pe_int) (pv 2)) (pe_ix (ix_listK K) (pv 0) (pv 2) (fun _ _ => rfl)))))
      (pss_one (ps_ret (pe_lc (own := [("pile", 3)]) (g := gName 3) rfl sc_setting_by.nd (pi_list (pv 1)) (blkOk_by (own := [("pile", 3)]) (N := ["marks", "piles", "k", "pile"]) (sc := defScope s_setting_by) (by decide +kernel)) (fun _ _ _ _ _ => pg_name (i := 3) sc_setting_by.nd rfl (Or.inl rfl)) (fun _ _ _ _ _ => (pts_one (pt_cmpR op_gt (pv 3) pe_int (nomark _)))) (fun _ _ _ _ _ => (pv 3)))))), ?_⟩
  refine ⟨_, rfl, a, _, rfl, .inl (sq hS), _, rfl, by rw [nlen]; omega, by rw [nlen]; omega, fun D nD => lc_range (lo := 0) (n := ((ms.map V.int).length : Int).toNat) (fun i H' => Same H H' ∧ IL H' D ((mk ms).take i)) ⟨same_new nD _, upd_same⟩ ?_ ?_⟩
  · intro i H' hi h
    obtain ⟨sm, eD⟩ := h
    rw [nlen] at hi
    have hi : i < ms.length := by omega
    refine ⟨rfl, _, rfl, a, _, rfl, .inl (sq (sm _ _ hS)), _, _, rfl, rfl, _, rfl, _, _, rfl, rfl, _, rfl, _, rfl, a, _, _, .int ms[i], rfl, rfl, sq (sm _ _ hS), at_of (j := i) (by omega) (int_get (List.getElem?_eq_getElem hi)), _, _, rfl, rfl, _, eD, ?_, same_mut sm nD _, ?_⟩
    · rw [nlen, List.length_take, mk_length]
      exact smallL (by omega)
    · have g := mk_get (List.getElem?_eq_getElem hi)
      show upd _ _ _ _ = _
      rw [upd_same, take_snoc g, List.map_append, nlen]
      congr 4
      simp
  · intro H1 h
    obtain ⟨sm, eD⟩ := h
    rw [nlen, Int.toNat_natCast, ← mk_length, List.take_length] at eD
    refine ⟨_, rfl, D, rfl, ⟨_, sq eD⟩, fun G nG => lc_list (K := K) (a := D) (xs := (mk ms).map V.int) (fun i H' => Same H1 H' ∧ IL H' G (((mk ms).take i).filter fun z => decide (z > 0))) ⟨same_new nG _, upd_same⟩ (fun i H' _ h => sq (h.1 _ _ eD)) ?_ ?_⟩
    · intro i x H' hx h
      obtain ⟨z, hz, rfl⟩ := get_int hx
      obtain ⟨sm2, eG⟩ := h
      refine ⟨rfl, _, rfl, _, _, rfl, rfl, _, rfl, ?_⟩
      rw [take_snoc hz, List.filter_append]
      refine ite2 (fun c => ?_) (fun c => ?_)
      · have c' : z > 0 := of_decide_eq_true c
        refine ⟨_, rfl, _, eG, ?_, same_mut sm2 nG _, ?_⟩
        · rw [nlen]
          have := List.length_filter_le (fun z => decide (z > 0)) ((mk ms).take i)
          rw [List.length_take, mk_length] at this
          exact smallL (by omega)
        · show upd _ _ _ _ = _
          rw [upd_same, List.map_append, List.filter_cons, if_pos (decide_eq_true c')] <;> rfl
      · have c' : ¬ z > 0 := fun h => c (decide_eq_true h)
        refine ⟨sm2, ?_⟩
        rw [List.filter_cons, if_neg (by simp only [decide_eq_true_eq]; exact c'), List.filter_nil, List.append_nil]
        exact eG
    · intro H2 h
      obtain ⟨sm2, eG⟩ := h
      rw [nlen, List.take_length] at eG
      exact q H2 G (sm.trans sm2) (sm.free nG) eG

end

section
variable {P : Program} {w : World} {K : PySem.W.Frag} {mg : Str → Option Value} {base : Heap}
theorem sc_ring_by : FnScope ["first", "found", "here"] ["first"] (defScope s_ring_by) := ⟨rfl, rfl, rfl, by decide +kernel, rfl, by decide +kernel, by decide +kernel⟩
def sp_ring_by : Sp := fun vs H Q _ => ∃ (a : Addr) (ns : List Int) (n : Int) (d : Nat), vs = [.ref a] ∧ IL H a ns ∧ IsSet n ns ∧ n ≤ 100 ∧ Ring ns d ∧ d ≤ 100000 ∧ NLL Q H (ringL d ns)
theorem ok_ring_by (T : Txt K mg) : Cal P w K mg base CX0 2 "ring_by" ["first"] sp_ring_by := by
  have C_turned_by := ok_turned_by (P := P) (w := w) (base := base) T
  refine cal_mk T.d_ring_by sc_ring_by ?_ (fun _ _ _ _ _ _ us hl => match us, hl with | [_], _ => rfl) (fun f cdv A outer s H vs Q E hr h => ?_)
  · intro vs H Q E h
    obtain ⟨a, ns, n, d, rfl, _⟩ := h
    rfl
  obtain ⟨a, ns, n, d, rfl, hS, hset, hn, hring, hd, q⟩ := h
  have hlen := hset.len
  refine ⟨_, (pss_cons (ps_set (i := 1) sc_ring_by.nd rfl (Or.inl rfl) (pe_lst (pa_cons (pe_callTy (T := "list") call_list_of (by rfl) T.m_list (by decide +kernel) (pa_cons (pv 0) pa_nil)) pa_nil)))
      (pss_cons (ps_set (i := 2) sc_ring_by.nd rfl (Or.inl rfl) (pe_callF C_turned_by (hr.mono (by decide)) (pa_cons (pv 0) pa_nil)))
      (pss_cons (ps_while PassesOwn.never (pt_cmpR (op_neD hr.units) (pv 2) (pe_ix ix_list (pv 1) pe_int (fun _ _ => rfl)) (nomark _))
      (pss_cons (ps_expr (pe_bm PySem.F.plainAttrs_list PySem.F.slot_list_append PySem.F.type_list_append mt_append (pv 1) (pa_cons (pv 2) pa_nil)))
      (pss_one (ps_set (i := 2) sc_ring_by.nd rfl (Or.inl rfl) (pe_callF C_turned_by (hr.mono (by decide)) (pa_cons (pv 2) pa_nil))))))
      (pss_one (ps_ret (pv 1)))))), ?_⟩
  -- found = [list(first)]
  refine ⟨_, rfl, a, _, rfl, .inl (sq hS), fun p0 n0 => ⟨(by show 1 ≤ sizeLine; decide), fun F nF => ?_⟩⟩
  have s0 := same_new n0 (.lst (ns.map V.int))
  have sF := same_new nF (.lst [V.ref p0])
  have e0 : IL (upd (upd H p0 (.lst (ns.map V.int))) F (.lst [V.ref p0])) p0 ns := sF p0 (.lst (ns.map V.int)) upd_same
  have eF : (upd (upd H p0 (.lst (ns.map V.int))) F (.lst [V.ref p0])) F = some (.lst [V.ref p0]) := upd_same
  have n0F : p0 ≠ F := ne_of_none upd_same nF
  have smA := s0.trans sF
  have nF' : H F = none := s0.free nF
  generalize upd (upd H p0 (.lst (ns.map V.int))) F (.lst [V.ref p0]) = H1 at *
  -- here
  refine ⟨_, rfl, a, ns, rfl, smA _ _ hS, by omega, fun H2 h sm2 nh eh => ?_⟩
  refine ⟨fun m σ H' => ∃ (j : Nat) (as : List Addr) (b : Addr), σ = [some (.ref a), some (.ref F), some (.ref b)] ∧ Same H H' ∧ LL H' F (p0 :: as) (ringL j ns) ∧ (∀ c ∈ p0 :: as, H c = none ∧ c ≠ F) ∧ IL H' b (turnN j ns) ∧ H b = none ∧ b ≠ F ∧ 1 ≤ j ∧ j ≤ d ∧ m = d - j,
    ⟨_, 1, [], h, rfl, smA.trans sm2, ⟨sm2 _ _ eF, sm2 _ _ e0, trivial⟩, fun c hc => by rw [List.mem_singleton.mp hc]; exact ⟨n0, n0F⟩, eh, smA.free nh, (ne_of_none eF nh).symm, Nat.le_refl _, hring.pos, rfl⟩, fun m σ H' hW => ?_⟩
  obtain ⟨j, as, b, rfl, sm, ⟨eF', hLL⟩, has, eb, nb, nbF, j1, jd, rfl⟩ := hW
  obtain ⟨x, hx, ex⟩ := hLL.get (i := 0) (a := p0) rfl
  have hx0 : x = ns := by
    obtain ⟨k, rfl⟩ : ∃ k, j = k + 1 := ⟨j - 1, by omega⟩
    have h0 : (ringL (k + 1) ns)[0]? = some ns := by
      unfold ringL
      rw [List.getElem?_map, List.getElem?_range (by omega)] <;> rfl
    rw [h0] at hx
    exact (Option.some.inj hx).symm
  rw [hx0] at ex
  have hal := hLL.len
  rw [ringL_len] at hal
  refine ⟨_, rfl, _, rfl, F, _, _, .ref p0, rfl, rfl, sq eF', atI_nat (j := 0) rfl, _, _, dp_ints (sq eb), dp_ints (sq ex), sh_ints _, sh_ints _, _, rfl, ite2 (fun c => ?_) (fun c => ?_)⟩
  · have hne : turnN j ns ≠ ns := fun e => by
      rw [eqv_ints, decide_eq_true e] at c
      cases c
    have hjd : j < d := by
      rcases Nat.lt_or_ge j d with l | l
      · exact l
      · obtain rfl : j = d := by omega
        exact absurd hring.back hne
    refine ⟨fun σ' H2 => ∃ (j' : Nat) (as : List Addr) (b : Addr), j' = j + 1 ∧ σ' = [some (.ref a), some (.ref F), some (.ref b)] ∧ Same H H2 ∧ LL H2 F (p0 :: as) (ringL j' ns) ∧ (∀ c ∈ p0 :: as, H c = none ∧ c ≠ F) ∧ IL H2 b (turnN j' ns) ∧ H b = none ∧ b ≠ F, fun σ' H2 h => ?_, ?_⟩
    · obtain ⟨j', as, b, rfl, e1, e2, e3, e4, e5, e6, e7⟩ := h
      exact ⟨d - (j + 1), by omega, j + 1, as, b, e1, e2, e3, e4, e5, e6, e7, by omega, by omega, rfl⟩
    · refine ⟨_, rfl, .inl ⟨rfl, _, sq eF'⟩, _, rfl, F, _, _, rfl, rfl, eF', by rw [rlen]; exact smallL (by omega), ?_⟩
      have sm3 : Same H (upd H' F (.lst ((p0 :: as).map V.ref ++ [V.ref b]))) := same_mut sm nF' _
      have eb3 : IL (upd H' F (.lst ((p0 :: as).map V.ref ++ [V.ref b]))) b (turnN j ns) := by
        show upd _ _ _ _ = _
        rw [upd_ne nbF]
        exact eb
      have hLL3 : LLs (upd H' F (.lst ((p0 :: as).map V.ref ++ [V.ref b]))) (p0 :: as) (ringL j ns) := hLL.upd fun c hc => (has c hc).2
      have eF3 : (upd H' F (.lst ((p0 :: as).map V.ref ++ [V.ref b]))) F = some (.lst ((p0 :: as).map V.ref ++ [V.ref b])) := upd_same
      generalize upd H' F (.lst ((p0 :: as).map V.ref ++ [V.ref b])) = H3 at *
      have hts := (turnN_set (j := j) hset).len
      refine ⟨_, rfl, b, _, rfl, eb3, by omega, fun H4 b' sm4 nb' eb' => ?_⟩
      refine ⟨j + 1, as ++ [b], b', rfl, rfl, sm3.trans sm4, ⟨?_, ?_⟩, fun c hc => ?_, by rw [turnN_succ]; exact eb', sm3.free nb', (ne_of_none eF3 nb').symm⟩
      · rw [sm4 _ _ eF3, ← List.cons_append, List.map_append] <;> rfl
      · rw [ringL_succ, ← List.cons_append]
        exact (hLL3.same sm4).app ⟨sm4 _ _ eb3, trivial⟩
      · rw [← List.cons_append] at hc
        rcases List.mem_append.mp hc with hc | hc
        · exact has c hc
        · rw [List.mem_singleton.mp hc]
          exact ⟨nb, nbF⟩
  · have he : turnN j ns = ns := by
      by_cases e : turnN j ns = ns
      · exact e
      · rw [eqv_ints, decide_eq_false e] at c
        exact absurd rfl c
    have hjd : j = d := by
      rcases Nat.lt_or_ge j d with l | l
      · exact absurd he (hring.first j (by omega) l)
      · omega
    subst hjd
    exact ⟨_, rfl, q H' F (p0 :: as) sm nF' (fun c hc => (has c hc).1) ⟨eF', hLL⟩⟩

end

section
variable {P : Program} {w : World} {K : PySem.W.Frag} {mg : Str → Option Value} {base : Heap}
theorem sc_is_setting : FnScope ["piles", "k"] ["piles"] (defScope s_is_setting) := ⟨rfl, rfl, rfl, by decide +kernel, rfl, by decide +kernel, by decide +kernel⟩
def sp_is_setting : Sp := fun vs H Q _ => ∃ (a : Addr) (ns : List Int), vs = [.ref a] ∧ IL H a ns ∧ ns.length ≤ 1000 ∧ ∀ b : Bool, (b = true ↔ Good ns ∧ ns.sum ≤ 100) → Q (.bl b) H
theorem ok_is_setting (T : Txt K mg) : Cal P w K mg base CX0 1 "is_setting" ["piles"] sp_is_setting := by
  refine cal_mk T.d_is_setting sc_is_setting ?_ (fun _ _ _ _ _ _ us hl => match us, hl with | [_], _ => rfl) (fun f cdv A outer s H vs Q E hr h => ?_)
  · intro vs H Q E h
    obtain ⟨a, ns, rfl, _⟩ := h
    rfl
  obtain ⟨a, ns, rfl, hS, hl, q⟩ := h
  refine ⟨_, (pss_cons (ps_if (PW.pt (pw_or (pt_cmpR op_lt (pe_callB call_len_seq (by rfl) T.m_len PySem.boot_len (pa_cons (pv 0) pa_nil)) pe_int (nomark _)) (pw_or1 (pt_cmpR op_gt (pe_callB (cr_sum rfl) (by rfl) T.m_sum (by decide +kernel) (pa_cons (pv 0) pa_nil)) (pe_globX T.c_MOST) (nomark _)))))
      (pss_one (ps_ret pe_bl)) pss_nil)
      (pss_cons (ps_for PassesOwn.never rfl (pi_range1 (by rfl) T.m_range (pa_cons (pe_callB call_len_seq (by rfl) T.m_len PySem.boot_len (pa_cons (pv 0) pa_nil)) pa_nil)) (pg_name (i := 1) sc_is_setting.nd rfl (Or.inl rfl))
      (pss_cons (ps_if (pt_cmpR op_lt (pe_ix ix_list (pv 0) (pv 1) (fun _ _ => rfl)) pe_int (nomark _))
      (pss_one (ps_ret pe_bl)) pss_nil)
      (pss_one (ps_if (PW.pt (pw_and (pt_cmpR op_gt (pv 1) pe_int (nomark _)) (pw_and1 (pt_cmpR op_gt (pe_ix ix_list (pv 0) (pv 1) (fun _ _ => rfl)) (pe_ix ix_list (pv 0) (pe_op op_sub (pv 1) pe_int) (fun _ _ => rfl)) (nomark _)))))
      (pss_one (ps_ret pe_bl)) pss_nil))))
      (pss_one (ps_ret pe_bl)))), ?_⟩
  have no : (¬ (Good ns ∧ ns.sum ≤ 100)) → Q (.bl false) H := fun h => q false ⟨fun z => (by cases z), fun z => absurd z h⟩
  refine ⟨_, rfl, a, _, rfl, .inl (sq hS), _, _, rfl, rfl, _, rfl, ite2 (fun c => ?_) (fun c => ⟨_, rfl, a, ns, rfl, sq hS, _, _, rfl, rfl, _, rfl, ite2 (fun c2 => ?_) (fun c2 => ?_)⟩)⟩
  · refine no fun h => ?_
    have c' : ((ns.map V.int).length : Int) < 1 := of_decide_eq_true c
    rw [nlen] at c'
    have := List.length_pos_iff.mpr h.1.ne
    omega
  · refine no fun h => ?_
    have c' : (100 : Int) < ns.sum := of_decide_eq_true c2
    omega
  · have c1' : ¬ ((ns.map V.int).length : Int) < 1 := fun h => c (decide_eq_true h)
    have c2' : ¬ (100 : Int) < ns.sum := fun h => c2 (decide_eq_true h)
    rw [nlen] at c1'
    refine ⟨_, rfl, a, _, rfl, .inl (sq hS), _, rfl, by rw [nlen]; omega, by rw [nlen]; omega, for_range (lo := 0) (n := ((ns.map V.int).length : Int).toNat) (fun i σ H' => ∃ y, σ = [some (.ref a), y] ∧ H' = H ∧ Adj ns i) ⟨none, rfl, rfl, fun j hj => by omega⟩ ?_ ?_⟩
    · intro i σ H' hi h
      obtain ⟨y, rfl, rfl, ha⟩ := h
      rw [nlen] at hi
      have hi : i < ns.length := by omega
      have gi : ns[i]? = some ns[i] := List.getElem?_eq_getElem hi
      have ai : atI (ns.map V.int) (0 + (i : Int)) = some (.int ns[i]) := at_of (j := i) (by omega) (int_get gi)
      refine ⟨_, rfl, _, rfl, a, _, _, .int ns[i], rfl, rfl, sq hS, ai, _, _, rfl, rfl, _, rfl, ite2 (fun d => ?_) (fun d => ?_)⟩
      · refine no fun h => ?_
        have d' : ns[i] < 1 := of_decide_eq_true d
        have := ((good_adj.mp h.1).2 i hi _ gi).1
        omega
      · have d' : ¬ ns[i] < 1 := fun h => d (decide_eq_true h)
        have more : (∀ y, 0 < i → ns[i - 1]? = some y → ns[i] ≤ y) → Adj ns (i + 1) := fun hy j hj x hx => by
          rcases Nat.lt_or_ge j i with l | l
          · exact ha j l x hx
          · obtain rfl : j = i := by omega
            obtain rfl : ns[j] = x := Option.some.inj (gi.symm.trans hx)
            exact ⟨by omega, hy⟩
        refine ⟨_, rfl, _, _, rfl, rfl, _, rfl, ite2 (fun e => ?_) (fun e => ?_)⟩
        · have e' : (0 : Int) < 0 + (i : Int) := of_decide_eq_true e
          have gp : ns[i - 1]? = some (ns[i - 1]'(by omega)) := List.getElem?_eq_getElem (by omega)
          refine ⟨_, rfl, _, rfl, a, _, _, .int ns[i], rfl, rfl, sq hS, ai, _, rfl, _, rfl, _, _, rfl, rfl, a, _, _, .int (ns[i - 1]'(by omega)), rfl, rfl, sq hS, at_of (j := i - 1) (by omega) (int_get gp), _, _, rfl, rfl, _, rfl, ite2 (fun f => ?_) (fun f => ?_)⟩
          · refine no fun h => ?_
            have f' : ns[i - 1]'(by omega) < ns[i] := of_decide_eq_true f
            have := ((good_adj.mp h.1).2 i hi _ gi).2 _ (by omega) gp
            omega
          · have f' : ¬ ns[i - 1]'(by omega) < ns[i] := fun h => f (decide_eq_true h)
            refine ⟨_, rfl, rfl, more fun y _ hy => ?_⟩
            rw [gp] at hy
            have := Option.some.inj hy
            omega
        · have e' : ¬ (0 : Int) < 0 + (i : Int) := fun h => e (decide_eq_true h)
          exact ⟨_, rfl, rfl, more fun y h0 _ => by omega⟩
    · intro σ H' h
      obtain ⟨y, rfl, rfl, ha⟩ := h
      rw [nlen, Int.toNat_natCast] at ha
      exact q true ⟨fun _ => ⟨good_adj.mpr ⟨fun e => by rw [e] at c1'; exact c1' (by decide), ha⟩, by omega⟩, fun _ => rfl⟩

end

section
variable {P : Program} {w : World} {K : PySem.W.Frag} {mg : Str → Option Value} {base : Heap}
theorem sc_must_be : FnScope ["piles"] ["piles"] (defScope s_must_be) := ⟨rfl, rfl, rfl, by decide +kernel, rfl, by decide +kernel, by decide +kernel⟩
/-- what is no setting is refused -/
def sp_must_be (K : PySem.W.Frag) : Sp := fun vs H Q E => ∃ (a : Addr) (ns : List Int), vs = [.ref a] ∧ IL H a ns ∧ ns.length ≤ 1000 ∧ ((Good ns ∧ ns.sum ≤ 100) → Q .non H) ∧ (¬ (Good ns ∧ ns.sum ≤ 100) → E (.ref (He.ga K "NoPiles")) none H)
theorem Good.le100 {ns : List Int} (h : Good ns) (h2 : ns.sum ≤ 100) : ns.length ≤ 100 := by
  have := len_le_sum h.pos
  omega
theorem ok_must_be (T : Txt K mg) : Cal P w K mg base (L2N.CX P w) 2 "must_be" ["piles"] (sp_must_be K) := by
  have C_is_setting := ok_is_setting (P := P) (w := w) (base := base) T
  refine cal_mkX T.d_must_be sc_must_be ?_ (fun _ _ _ _ _ _ us hl => match us, hl with | [_], _ => rfl) (fun f cdv A outer s H vs Q E hr h tk => ?_)
  · intro vs H Q E h
    obtain ⟨a, ns, rfl, _⟩ := h
    rfl
  obtain ⟨a, ns, rfl, hS, hl, q, e⟩ := h
  refine ⟨_, (pss_one (ps_if (pt_not (pt_val (pe_callF C_is_setting (hr.mono (by decide)) (pa_cons (pv 0) pa_nil))))
      (pss_one (L2N.ps_raise rfl tk (pmk_x (T.xc "NoPiles" (by decide)) (by rfl)))) pss_nil)), ?_⟩
  refine ⟨_, rfl, a, ns, rfl, hS, hl, fun b hb => ?_⟩
  cases b with
  | true => exact ⟨true, rfl, q (hb.mp rfl)⟩
  | false => exact ⟨false, rfl, e fun h => by have := hb.mpr h; cases this⟩

end

section
variable {P : Program} {w : World} {K : PySem.W.Frag} {mg : Str → Option Value} {base : Heap}
theorem sc_must_count : FnScope ["coins", "most"] ["coins", "most"] (defScope s_must_count) := ⟨rfl, rfl, rfl, by decide +kernel, rfl, by decide +kernel, by decide +kernel⟩
def sp_must_count (K : PySem.W.Frag) : Sp := fun vs H Q E => ∃ n m : Int, vs = [.int n, .int m] ∧ (1 ≤ n ∧ n ≤ m → Q .non H) ∧ (¬ (1 ≤ n ∧ n ≤ m) → E (.ref (He.ga K "NoNumber")) none H)
theorem ok_must_count (T : Txt K mg) : Cal P w K mg base (L2N.CX P w) 1 "must_count" ["coins", "most"] (sp_must_count K) := by
  refine cal_mkX T.d_must_count sc_must_count ?_ (fun _ _ _ _ _ _ us hl => match us, hl with | [_, _], _ => rfl) (fun f cdv A outer s H vs Q E hr h tk => ?_)
  · intro vs H Q E h
    obtain ⟨n, m, rfl, _⟩ := h
    rfl
  obtain ⟨n, m, rfl, q, e⟩ := h
  refine ⟨_, (pss_one (ps_if (PW.pt (pw_or (pt_cmpR op_lt (pv 0) pe_int (nomark _)) (pw_or1 (pt_cmpR op_gt (pv 0) (pv 1) (nomark _)))))
      (pss_one (L2N.ps_raise rfl tk (pmk_x (T.xc "NoNumber" (by decide)) (by rfl)))) pss_nil)), ?_⟩
  refine ⟨_, rfl, _, _, rfl, rfl, _, rfl, ite2 (fun c => ?_) (fun c => ⟨_, rfl, _, rfl, _, _, rfl, rfl, _, rfl, ite2 (fun d => ?_) (fun d => ?_)⟩)⟩
  · have c' : n < 1 := of_decide_eq_true c
    exact e (by omega)
  · have d' : m < n := of_decide_eq_true d
    exact e (by omega)
  · have c' : ¬ n < 1 := fun h => c (decide_eq_true h)
    have d' : ¬ m < n := fun h => d (decide_eq_true h)
    exact q ⟨by omega, by omega⟩

end

section
variable {P : Program} {w : World} {K : PySem.W.Frag} {mg : Str → Option Value} {base : Heap}
theorem sc_chosen : FnScope ["all_of", "some", "total", "k"] ["all_of", "some"] (defScope s_chosen) := ⟨rfl, rfl, rfl, by decide +kernel, rfl, by decide +kernel, by decide +kernel⟩
def sp_chosen : Sp := fun vs H Q _ => ∃ a k : Nat, vs = [.int a, .int k] ∧ k ≤ a ∧ a ≤ 100000 ∧ Q (.int (choN a k)) H
theorem ok_chosen (T : Txt K mg) : Cal P w K mg base CX0 1 "chosen" ["all_of", "some"] sp_chosen := by
  refine cal_mk T.d_chosen sc_chosen ?_ (fun _ _ _ _ _ _ us hl => match us, hl with | [_, _], _ => rfl) (fun f cdv A outer s H vs Q E hr h => ?_)
  · intro vs H Q E h
    obtain ⟨n, m, rfl, _⟩ := h
    rfl
  obtain ⟨n, m, rfl, h1, h2, q⟩ := h
  refine ⟨_, (pss_cons (ps_set (i := 2) sc_chosen.nd rfl (Or.inl rfl) pe_int)
      (pss_cons (ps_for PassesOwn.never rfl (pi_range1 (by rfl) T.m_range (pa_cons (pv 1) pa_nil)) (pg_name (i := 3) sc_chosen.nd rfl (Or.inl rfl))
      (pss_one (ps_set (i := 2) sc_chosen.nd rfl (Or.inl rfl) (pe_op op_fdiv (pe_op op_mul (pv 2) (pe_op op_sub (pv 0) (pv 3))) (pe_op op_add (pv 3) pe_int)))))
      (pss_one (ps_ret (pv 2))))), ?_⟩
  refine ⟨_, rfl, m, rfl, by omega, by omega, for_range (lo := 0) (n := (m : Int).toNat) (fun i σ H' => ∃ y, σ = [some (.int n), some (.int m), some (.int (choN n i)), y] ∧ H' = H) ⟨none, rfl, rfl⟩ ?_ ?_⟩
  · intro i σ H' hi h
    obtain ⟨y, rfl, rfl⟩ := h
    have hi : i < m := by omega
    have e1 : (n : Int) - (0 + (i : Int)) = ((n - i : Nat) : Int) := by omega
    refine ⟨_, rfl, _, rfl, _, rfl, _, _, rfl, rfl, _, _, rfl, rfl, .inr ⟨by omega, by omega⟩, _, rfl, _, _, rfl, rfl, _, _, rfl, rfl, ⟨by show (0 : Int) < 0 + (i : Int) + 1; omega, by show 0 + (i : Int) + 1 < 1073741824; omega⟩, some (.int (0 + (i : Int))), ?_, rfl⟩
    have e2 : (choN n (i + 1) : Int) = (choN n i : Int) * ((n : Int) - (0 + (i : Int))) / (0 + (i : Int) + 1) := by
      rw [e1, Int.zero_add]
      rfl
    rw [e2]
    rfl
  · intro σ H' h
    obtain ⟨y, rfl, rfl⟩ := h
    rw [Int.toNat_natCast]
    exact ⟨_, rfl, q⟩

end

section
variable {P : Program} {w : World} {K : PySem.W.Frag} {mg : Str → Option Value} {base : Heap}
theorem sc_common : FnScope ["one", "other", "rest"] ["one", "other"] (defScope s_common) := ⟨rfl, rfl, rfl, by decide +kernel, rfl, by decide +kernel, by decide +kernel⟩
def sp_common : Sp := fun vs H Q _ => ∃ a b : Nat, vs = [.int a, .int b] ∧ Q (.int (Nat.gcd a b)) H
theorem ok_common (T : Txt K mg) : Cal P w K mg base CX0 1 "common" ["one", "other"] sp_common := by
  refine cal_mk T.d_common sc_common ?_ (fun _ _ _ _ _ _ us hl => match us, hl with | [_, _], _ => rfl) (fun f cdv A outer s H vs Q E hr h => ?_)
  · intro vs H Q E h
    obtain ⟨n, m, rfl, _⟩ := h
    rfl
  obtain ⟨n, m, rfl, q⟩ := h
  refine ⟨_, (pss_cons (ps_while PassesOwn.never (pt_cmpR op_gt (pv 1) pe_int (nomark _))
      (pss_cons (ps_set (i := 2) sc_common.nd rfl (Or.inl rfl) (pe_op op_mod (pv 0) (pv 1)))
      (pss_cons (ps_set (i := 0) sc_common.nd rfl (Or.inl rfl) (pv 1))
      (pss_one (ps_set (i := 1) sc_common.nd rfl (Or.inl rfl) (pv 2))))))
      (pss_one (ps_ret (pv 0)))), ?_⟩
  refine ⟨fun k σ H' => ∃ (a b : Nat) (y : Option V), σ = [some (.int a), some (.int b), y] ∧ H' = H ∧ k = b ∧ Nat.gcd a b = Nat.gcd n m, ⟨_, n, m, none, rfl, rfl, rfl, rfl⟩, fun k σ H' hW => ?_⟩
  obtain ⟨a, b, y, rfl, rfl, rfl, hg⟩ := hW
  refine ⟨_, rfl, _, _, rfl, rfl, _, rfl, ite2 (fun c => ?_) (fun c => ?_)⟩
  · have c' : (0 : Int) < (k : Int) := of_decide_eq_true c
    have hk : 0 < k := by omega
    refine ⟨fun σ' H2 => ∃ (b' : Nat) (y : Option V), b' = a % k ∧ σ' = [some (.int k), some (.int b'), y] ∧ H2 = H', fun σ' H2 h => ?_, ?_⟩
    · obtain ⟨b', y, rfl, e1, e2⟩ := h
      refine ⟨a % k, Nat.mod_lt _ hk, k, a % k, y, e1, e2, rfl, ?_⟩
      rw [← hg, Nat.gcd_comm a k, Nat.gcd_rec k a, Nat.gcd_comm]
    · exact ⟨_, rfl, _, rfl, _, _, rfl, rfl, (by show (0 : Int) < (k : Int); omega), _, rfl, _, rfl, _, _, rfl, rfl, rfl⟩
  · have c' : ¬ (0 : Int) < (k : Int) := fun h => c (decide_eq_true h)
    obtain rfl : k = 0 := by omega
    rw [← hg, Nat.gcd_zero_right] at q
    exact ⟨_, rfl, q⟩

end

section
variable {P : Program} {w : World} {K : PySem.W.Frag} {mg : Str → Option Value} {base : Heap}
theorem sc_all_marks : FnScope ["many", "ones", "found", "rest"] ["many", "ones"] (defScope s_all_marks) := ⟨rfl, rfl, rfl, by decide +kernel, rfl, by decide +kernel, by decide +kernel⟩
def sp_all_marks (n : Nat) : Sp := fun vs H Q _ => ∃ (m : Nat) (o : Int), vs = [.int m, .int o] ∧ m < n ∧ m ≤ 12 ∧ NLL Q H (allM m o)
theorem step_all_marks (T : Txt K mg) {n : Nat} (C_all_marks : Cal P w K mg base CX0 n "all_marks" ["many", "ones"] (sp_all_marks n)) : Cal P w K mg base CX0 (n + 1) "all_marks" ["many", "ones"] (sp_all_marks (n + 1)) := by
  refine cal_mk T.d_all_marks sc_all_marks ?_ (fun _ _ _ _ _ _ us hl => match us, hl with | [_, _], _ => rfl) (fun f cdv A outer s H vs Q E hr h => ?_)
  · intro vs H Q E h
    obtain ⟨m, o, rfl, _⟩ := h
    rfl
  obtain ⟨m, o, rfl, h1, h2, q⟩ := h
  refine ⟨_, (pss_cons (ps_if (PW.pt (pw_or (pt_cmpR op_lt (pv 1) pe_int (nomark _)) (pw_or1 (pt_cmpR op_gt (pv 1) (pv 0) (nomark _)))))
      (pss_one (ps_ret (pe_lst pa_nil))) pss_nil)
      (pss_cons (ps_if (pt_cmpR op_eq (pv 0) pe_int (nomark _))
      (pss_one (ps_ret (pe_lst (pa_cons (pe_lst pa_nil) pa_nil)))) pss_nil)
      (pss_cons (ps_setLc (i := 2) (own := [("rest", 3)]) (g := gName 3) rfl sc_all_marks.nd rfl rfl (sw_true rfl rfl rfl (by decide +kernel)) (pi_list (pe_callF C_all_marks hr (pa_cons (pe_op op_sub (pv 0) pe_int) (pa_cons (pe_op op_sub (pv 1) pe_int) pa_nil)))) (blkOk_by (own := [("rest", 3)]) (N := ["many", "ones", "found", "rest"]) (sc := defScope s_all_marks) (by decide +kernel)) (fun _ _ _ _ _ => pg_name (i := 3) sc_all_marks.nd rfl (Or.inl rfl)) (fun _ _ _ _ _ => pts_nil) (fun _ _ _ _ _ => (pe_op op_cat (pe_lst (pa_cons pe_int pa_nil)) (pv 3))))
      (pss_one (ps_ret (pe_op op_cat (pv 2) (pe_lc (own := [("rest", 3)]) (g := gName 3) rfl sc_all_marks.nd (pi_list (pe_callF C_all_marks hr (pa_cons (pe_op op_sub (pv 0) pe_int) (pa_cons (pv 1) pa_nil)))) (blkOk_by (own := [("rest", 3)]) (N := ["many", "ones", "found", "rest"]) (sc := defScope s_all_marks) (by decide +kernel)) (fun _ _ _ _ _ => pg_name (i := 3) sc_all_marks.nd rfl (Or.inl rfl)) (fun _ _ _ _ _ => pts_nil) (fun _ _ _ _ _ => (pe_op op_cat (pe_lst (pa_cons pe_int pa_nil)) (pv 3)))))))))), ?_⟩
  have none0 : ∀ H', Same H H' → ∀ p, H' p = none → NLL Q H [] → Q (.ref p) (upd H' p (.lst [])) := fun H' sm p np q => q _ p [] (sm.trans (same_new np _)) (sm.free np) (fun a ha => by cases ha) ⟨upd_same, trivial⟩
  refine ⟨_, rfl, _, _, rfl, rfl, _, rfl, ite2 (fun c => ?_) (fun c => ⟨_, rfl, _, rfl, _, _, rfl, rfl, _, rfl, ite2 (fun d => ?_) (fun d => ?_)⟩)⟩
  · have c' : o < 0 := of_decide_eq_true c
    have e : allM m o = [] := by
      cases m <;> (unfold allM; rw [if_pos c'])
    rw [e] at q
    exact ⟨Nat.zero_le _, fun p np => none0 H (Same.refl H) p np q⟩
  · have c' : ¬ o < 0 := fun h => c (decide_eq_true h)
    have d' : (m : Int) < o := of_decide_eq_true d
    have e : allM m o = [] := by
      cases m with
      | zero => unfold allM; rw [if_neg c', if_pos (show o > 0 by omega)]
      | succ k => unfold allM; rw [if_neg c', if_pos d']
    rw [e] at q
    exact ⟨Nat.zero_le _, fun p np => none0 H (Same.refl H) p np q⟩
  have c' : ¬ o < 0 := fun h => c (decide_eq_true h)
  have d' : ¬ (m : Int) < o := fun h => d (decide_eq_true h)
  refine ⟨_, rfl, rfl, _, rfl, ite2 (fun c => ?_) (fun c => ?_)⟩
  · have c2 := V.int.inj (of_decide_eq_true c)
    obtain rfl : m = 0 := by omega
    have e : allM 0 o = [[]] := by
      unfold allM
      rw [if_neg c', if_neg (by omega)]
    rw [e] at q
    refine ⟨Nat.zero_le _, fun p1 n1 => ⟨(by show 1 ≤ sizeLine; decide), fun p2 n2 => ?_⟩⟩
    have s1 := same_new n1 (.lst ([] : List V))
    have s2 := same_new n2 (.lst [V.ref p1])
    exact q _ p2 [p1] (s1.trans s2) (s1.free n2) (fun a ha => by rw [List.mem_singleton.mp ha]; exact n1) ⟨upd_same, s2 p1 (.lst ([] : List V)) upd_same, trivial⟩
  · have hm : m ≠ 0 := fun e => c (decide_eq_true (congrArg V.int (by omega)))
    obtain ⟨k, rfl⟩ : ∃ k, m = k + 1 := ⟨m - 1, by omega⟩
    have e : allM (k + 1) o = (allM k (o - 1)).map (1 :: ·) ++ (allM k o).map (0 :: ·) := by
      show (if _ then _ else if _ then _ else _) = _
      rw [if_neg c', if_neg d']
    rw [e] at q
    have ek : ((k + 1 : Nat) : Int) - 1 = (k : Int) := by omega
    have hp : 2 ^ k ≤ 2 ^ 11 := Nat.pow_le_pow_right (by decide) (by omega)
    refine ⟨_, rfl, _, _, rfl, rfl, _, rfl, _, _, rfl, rfl, k, o - 1, congrArg (fun z => [V.int z, V.int (o - 1)]) ek, by omega, by omega, fun H2 R rs sm2 nR nrs hR => ?_⟩
    obtain ⟨eR, hrs⟩ := hR
    have hrl := hrs.len
    have hpl := allM_len k (o - 1)
    generalize hPP : allM k (o - 1) = PP at *
    refine ⟨R, rfl, ⟨_, sq eR⟩, fun D nD => lc_list (K := K) (a := R) (xs := rs.map V.ref) (fun i H' => ∃ bs : List Addr, Same H H' ∧ H' R = some (.lst (rs.map V.ref)) ∧ LLs H' rs PP ∧ LL H' D bs ((PP.take i).map (1 :: ·)) ∧ ∀ a ∈ bs, H a = none ∧ a ≠ D)
      ⟨[], sm2.trans (same_new nD _), same_new nD _ _ _ eR, hrs.same (same_new nD _), ⟨upd_same, trivial⟩, fun a ha => (by cases ha)⟩ (fun i H' _ h => by obtain ⟨_, _, e, _⟩ := h; exact sq e) ?_ ?_⟩
    · intro i x H' hx h
      obtain ⟨r, hr, rfl⟩ := get_ref hx
      obtain ⟨bs, sm3, eR3, hrs3, ⟨eD3, hLL3⟩, hbs⟩ := h
      obtain ⟨ns, hns, er⟩ := hrs3.get hr
      have hil := (List.getElem?_eq_some_iff.mp hns).1
      have hnl : ns.length ≤ 12 := by
        have := (mem_allM.mp (by rw [hPP]; exact List.mem_of_getElem? hns)).2.1
        omega
      have hl3 := hLL3.len
      rw [List.length_map, List.length_take] at hl3
      refine ⟨rfl, (by show 1 ≤ sizeLine; decide), fun p1 n1 => ?_⟩
      have s1 := same_new n1 (.lst [V.int 1])
      refine ⟨_, rfl, p1, r, _, _, rfl, rfl, upd_same, s1 _ _ er, by rw [nlen]; exact small (by show 1 + ns.length ≤ _; omega), fun p2 n2 => ?_⟩
      have s2 := same_new n2 (.lst ([V.int 1] ++ ns.map V.int))
      have e2 : IL (upd (upd H' p1 (.lst [V.int 1])) p2 (.lst ([V.int 1] ++ ns.map V.int))) p2 (1 :: ns) := upd_same
      have s12 := s1.trans s2
      have n2' : H' p2 = none := s1.free n2
      generalize upd (upd H' p1 (.lst [V.int 1])) p2 (.lst ([V.int 1] ++ ns.map V.int)) = H4 at *
      have eD4 := s12 _ _ eD3
      have nDp : p2 ≠ D := (ne_of_none eD3 n2').symm
      refine ⟨_, eD4, by rw [rlen]; exact smallM (by omega), ?_⟩
      have nD0 : H D = none := sm2.free nD
      have nRD : R ≠ D := ne_of_none eR nD
      have rne : ∀ a ∈ rs, a ≠ D := hrs.ne nD
      refine ⟨bs ++ [p2], same_mut (sm3.trans s12) nD0 _, by rw [upd_ne nRD]; exact s12 _ _ eR3, (hrs3.same s12).upd rne, ⟨?_, ?_⟩, fun a ha => ?_⟩
      · simp only [upd_same, List.map_append]
        rfl
      · rw [take_snoc hns, List.map_append]
        refine LLs.upd (fun a ha => ?_) ((hLL3.same s12).app ⟨e2, trivial⟩)
        rcases List.mem_append.mp ha with ha | ha
        · exact (hbs a ha).2
        · rw [List.mem_singleton.mp ha]
          exact nDp
      · rcases List.mem_append.mp ha with ha | ha
        · exact hbs a ha
        · rw [List.mem_singleton.mp ha]
          exact ⟨sm3.free n2', nDp⟩
    · intro H5 h
      obtain ⟨as, smA, _, _, hA, hasA⟩ := h
      rw [rlen, hrl, List.take_length] at hA
      have nD0 : H D = none := sm2.free nD
      clear eR hrs hrl nR nrs sm2 nD hPP
      refine ⟨_, rfl, _, rfl, _, _, rfl, rfl, _, rfl, k, o, congrArg (fun z => [V.int z, V.int o]) ek, by omega, by omega, fun H6 R rs sm6 nR nrs hR => ?_⟩
      obtain ⟨eR, hrs⟩ := hR
      have hrl := hrs.len
      have hpl2 := allM_len k o
      have hA6 : LL H6 D as (PP.map (1 :: ·)) := ⟨sm6 _ _ hA.1, hA.2.same sm6⟩
      have hal := hA6.2.len
      rw [List.length_map] at hal
      generalize hQQ : allM k o = QQ at *
      refine ⟨R, rfl, ⟨_, sq eR⟩, fun D2 nD2 => lc_list (K := K) (a := R) (xs := rs.map V.ref) (fun i H' => ∃ bs : List Addr, Same H6 H' ∧ H' R = some (.lst (rs.map V.ref)) ∧ LLs H' rs QQ ∧ LL H' D2 bs ((QQ.take i).map (0 :: ·)) ∧ ∀ a ∈ bs, H6 a = none ∧ a ≠ D2)
        ⟨[], same_new nD2 _, same_new nD2 _ _ _ eR, hrs.same (same_new nD2 _), ⟨upd_same, trivial⟩, fun a ha => (by cases ha)⟩ (fun i H' _ h => by obtain ⟨_, _, e, _⟩ := h; exact sq e) ?_ ?_⟩
      · intro i x H' hx h
        obtain ⟨r, hr, rfl⟩ := get_ref hx
        obtain ⟨bs, sm3, eR3, hrs3, ⟨eD3, hLL3⟩, hbs⟩ := h
        obtain ⟨ns, hns, er⟩ := hrs3.get hr
        have hil := (List.getElem?_eq_some_iff.mp hns).1
        have hnl : ns.length ≤ 12 := by
          have := (mem_allM.mp (by rw [hQQ]; exact List.mem_of_getElem? hns)).2.1
          omega
        have hl3 := hLL3.len
        rw [List.length_map, List.length_take] at hl3
        refine ⟨rfl, (by show 1 ≤ sizeLine; decide), fun p1 n1 => ?_⟩
        have s1 := same_new n1 (.lst [V.int 0])
        refine ⟨_, rfl, p1, r, _, _, rfl, rfl, upd_same, s1 _ _ er, by rw [nlen]; exact small (by show 1 + ns.length ≤ _; omega), fun p2 n2 => ?_⟩
        have s2 := same_new n2 (.lst ([V.int 0] ++ ns.map V.int))
        have e2 : IL (upd (upd H' p1 (.lst [V.int 0])) p2 (.lst ([V.int 0] ++ ns.map V.int))) p2 (0 :: ns) := upd_same
        have s12 := s1.trans s2
        have n2' : H' p2 = none := s1.free n2
        generalize upd (upd H' p1 (.lst [V.int 0])) p2 (.lst ([V.int 0] ++ ns.map V.int)) = H4 at *
        have eD4 := s12 _ _ eD3
        have nDp : p2 ≠ D2 := (ne_of_none eD3 n2').symm
        refine ⟨_, eD4, by rw [rlen]; exact smallM (by omega), ?_⟩
        have nRD : R ≠ D2 := ne_of_none eR nD2
        have rne : ∀ a ∈ rs, a ≠ D2 := hrs.ne nD2
        refine ⟨bs ++ [p2], same_mut (sm3.trans s12) nD2 _, by rw [upd_ne nRD]; exact s12 _ _ eR3, (hrs3.same s12).upd rne, ⟨?_, ?_⟩, fun a ha => ?_⟩
        · simp only [upd_same, List.map_append]
          rfl
        · rw [take_snoc hns, List.map_append]
          refine LLs.upd (fun a ha => ?_) ((hLL3.same s12).app ⟨e2, trivial⟩)
          rcases List.mem_append.mp ha with ha | ha
          · exact (hbs a ha).2
          · rw [List.mem_singleton.mp ha]
            exact nDp
        · rcases List.mem_append.mp ha with ha | ha
          · exact hbs a ha
          · rw [List.mem_singleton.mp ha]
            exact ⟨sm3.free n2', nDp⟩
      · intro H7 h
        obtain ⟨bs, smB, _, _, hB, hasB⟩ := h
        rw [rlen, hrl, List.take_length] at hB
        have hbl := hB.2.len
        rw [List.length_map] at hbl
        refine ⟨D, D2, _, _, rfl, rfl, smB _ _ hA6.1, hB.1, by rw [rlen, rlen]; exact small (by omega), fun L nL => ?_⟩
        have smL := (smA.trans sm6).trans smB
        have sL := same_new nL (.lst (as.map V.ref ++ bs.map V.ref))
        refine q _ L (as ++ bs) (smL.trans sL) (smL.free nL) (fun a ha => ?_) ⟨?_, ?_⟩
        · rcases List.mem_append.mp ha with ha | ha
          · exact (hasA a ha).1
          · exact (smA.trans sm6).free (hasB a ha).1
        · rw [upd_same, List.map_append]
        · exact ((hA6.2.same smB).app hB.2).same sL
theorem rec_all_marks (T : Txt K mg) : ∀ n : Nat, Cal P w K mg base CX0 n "all_marks" ["many", "ones"] (sp_all_marks n)
  | 0 => by
    obtain ⟨fd, F, g⟩ := T.d_all_marks
    have no : ∀ vs H Q E, ¬ sp_all_marks 0 vs H Q E := fun vs H Q E h => by
      obtain ⟨c, m, _, h1, _⟩ := h
      omega
    exact ⟨_, fd, ⟨fun vs H Q E h => absurd h (no vs H Q E), fun A outer s H args us vs Q E _ _ _ _ h => absurd h (no vs H Q E)⟩, g, F.kp, F.bindsN (fun _ _ _ _ _ _ us hl => match us, hl with | [_, _], _ => rfl)⟩
  | n + 1 => step_all_marks T (rec_all_marks T n)
theorem ok_all_marks (T : Txt K mg) : Cal P w K mg base CX0 20 "all_marks" ["many", "ones"] (sp_all_marks 20) := rec_all_marks T 20

end

section
variable {P : Program} {w : World} {K : PySem.W.Frag} {mg : Str → Option Value} {base : Heap}
theorem sc_settings_by : FnScope ["coins", "most", "found", "pile", "rest"] ["coins", "most"] (defScope s_settings_by) := ⟨rfl, rfl, rfl, by decide +kernel, rfl, by decide +kernel, by decide +kernel⟩
def sp_settings_by (n : Nat) : Sp := fun vs H Q _ => ∃ c m : Nat, vs = [.int c, .int m] ∧ c < n ∧ c ≤ 18 ∧ m ≤ 18 ∧ NLL Q H (parts n c m)
theorem step_settings_by (T : Txt K mg) {n : Nat} (C_settings_by : Cal P w K mg base CX0 n "settings_by" ["coins", "most"] (sp_settings_by n)) : Cal P w K mg base CX0 (n + 1) "settings_by" ["coins", "most"] (sp_settings_by (n + 1)) := by
  refine cal_mk T.d_settings_by sc_settings_by ?_ (fun _ _ _ _ _ _ us hl => match us, hl with | [_, _], _ => rfl) (fun f cdv A outer s H vs Q E hr h => ?_)
  · intro vs H Q E h
    obtain ⟨c, m, rfl, _⟩ := h
    rfl
  obtain ⟨c, m, rfl, h1, h2, h3, q⟩ := h
  refine ⟨_, (pss_cons (ps_if (pt_cmpR op_eq (pv 0) pe_int (nomark _))
      (pss_one (ps_ret (pe_lst (pa_cons (pe_lst pa_nil) pa_nil)))) pss_nil)
      (pss_cons (ps_set (i := 2) sc_settings_by.nd rfl (Or.inl rfl) (pe_lst pa_nil))
      (pss_cons (ps_for PassesOwn.never rfl (pi_range3 (by rfl) T.m_range (pa_cons (pe_callB (call_min2 rfl) (by rfl) T.m_min (by decide +kernel) (pa_cons (pv 0) (pa_cons (pv 1) pa_nil))) (pa_cons pe_int (pa_cons (pe_un un_neg pe_int) pa_nil)))) (pg_name (i := 3) sc_settings_by.nd rfl (Or.inl rfl))
      (pss_one (ps_for PassesOwn.never rfl (pi_list (pe_callF C_settings_by hr (pa_cons (pe_op op_sub (pv 0) (pv 3)) (pa_cons (pv 3) pa_nil)))) (pg_name (i := 4) sc_settings_by.nd rfl (Or.inl rfl))
      (pss_one (ps_expr (pe_bm PySem.F.plainAttrs_list PySem.F.slot_list_append PySem.F.type_list_append mt_append (pv 2) (pa_cons (pe_op op_cat (pe_lst (pa_cons (pv 3) pa_nil)) (pv 4)) pa_nil)))))))
      (pss_one (ps_ret (pv 2)))))), ?_⟩
  refine ⟨_, rfl, rfl, _, rfl, ite2 (fun d => ?_) (fun d => ?_)⟩
  · have d' : (c : Int) = 0 := V.int.inj (of_decide_eq_true d)
    obtain rfl : c = 0 := by omega
    refine ⟨Nat.zero_le _, fun p1 n1 => ⟨(by show 1 ≤ sizeLine; decide), fun p2 n2 => ?_⟩⟩
    have s1 := same_new n1 (.lst ([] : List V))
    have s2 := same_new n2 (.lst [V.ref p1])
    refine q _ p2 [p1] (s1.trans s2) (s1.free n2) (fun a ha => by rw [List.mem_singleton.mp ha]; exact n1) ⟨upd_same, s2 p1 (.lst ([] : List V)) upd_same, trivial⟩
  · have hc : 1 ≤ c := by
      rcases Nat.eq_zero_or_pos c with e | e
      · exact absurd (decide_eq_true (congrArg V.int (by omega))) d
      · exact e
    have hpl : parts (n + 1) c m = groups (fun p => parts n (c - p) p) (min c m) (min c m) := by
      show (if c = 0 then _ else _) = _
      rw [if_neg (by omega)]
    have hlen := parts_len (n + 1) c m
    have hb := two_pow_small (c := c) (by omega)
    rw [hpl] at q hlen
    have hM : (if (m : Int) < (c : Int) then (m : Int) else (c : Int)) = ((min c m : Nat) : Int) := by
      by_cases h : (m : Int) < (c : Int)
      · rw [if_pos h]
        omega
      · rw [if_neg h]
        omega
    have hMc : min c m ≤ c := Nat.min_le_left _ _
    generalize hMe : min c m = M at *
    refine ⟨Nat.zero_le _, fun F nF => ?_⟩
    refine ⟨_, rfl, _, rfl, c, m, rfl, _, rfl, M, 0, -1, _, congrArg (fun z => [V.int z, V.int 0, V.int (-1)]) hM, RgC.neg (by omega) (by omega) (by decide) (by decide), ?_⟩
    refine for_rangeC (lo := (M : Int)) (c := -1) (n := ((M : Int) - 0).toNat) (fun i σ H' => ∃ (as : List Addr) (y1 y2 : Option V), σ = [some (.int c), some (.int m), some (.ref F), y1, y2] ∧ Same H H' ∧ LL H' F as (groups (fun p => parts n (c - p) p) M i) ∧ ∀ a ∈ as, H a = none ∧ a ≠ F)
      ⟨[], none, none, rfl, same_new nF _, ⟨upd_same, trivial⟩, fun a ha => by cases ha⟩ ?_ ?_
    · intro i σ H' hi h
      obtain ⟨as, y1, y2, rfl, sm, ⟨eF, hLL⟩, has⟩ := h
      have hi : i < M := by omega
      have ep : (M : Int) + (i : Int) * (-1) = ((M - i : Nat) : Int) := by omega
      rw [ep]
      have ec : (c : Int) - ((M - i : Nat) : Int) = ((c - (M - i) : Nat) : Int) := by omega
      refine ⟨_, rfl, _, rfl, _, _, rfl, rfl, _, rfl, c - (M - i), M - i, congrArg (fun z => [V.int z, V.int ((M - i : Nat) : Int)]) ec, by omega, by omega, by omega, fun H2 R rs sm2 nR nrs hR => ?_⟩
      obtain ⟨eR, hrs⟩ := hR
      have hrl := hrs.len
      have hgl : (groups (fun p => parts n (c - p) p) M i).length + (parts n (c - (M - i)) (M - i)).length ≤ (groups (fun p => parts n (c - p) p) M M).length := by
        have h1 : (groups (fun p => parts n (c - p) p) M (i + 1)).length ≤ _ := groups_mono (g := fun p => parts n (c - p) p) (M := M) (i := i + 1) (j := M) hi
        have h2 : groups (fun p => parts n (c - p) p) M (i + 1) = groups (fun p => parts n (c - p) p) M i ++ (parts n (c - (M - i)) (M - i)).map (((M - i : Nat) : Int) :: ·) := rfl
        rw [h2, List.length_append, List.length_map] at h1
        exact h1
      have hal := hLL.len
      generalize hgr : groups (fun p => parts n (c - p) p) M i = G at *
      generalize hpp : parts n (c - (M - i)) (M - i) = PP at *
      have nRF : R ≠ F := (ne_of_none eF nR).symm
      refine ⟨R, rfl, ⟨_, sq eR⟩, for_list (K := K) (a := R) (xs := rs.map V.ref) (fun j σ H3 => ∃ (bs : List Addr) (y : Option V), σ = [some (.int c), some (.int m), some (.ref F), some (.int ((M - i : Nat) : Int)), y] ∧ Same H H3 ∧ H3 R = some (.lst (rs.map V.ref)) ∧ LLs H3 rs PP ∧
        LL H3 F (as ++ bs) (G ++ (PP.take j).map (((M - i : Nat) : Int) :: ·)) ∧ ∀ a ∈ bs, H a = none ∧ a ≠ F)
        ⟨[], y2, rfl, sm.trans sm2, eR, hrs, by rw [List.append_nil, List.take_zero, List.map_nil, List.append_nil]; exact ⟨sm2 _ _ eF, hLL.same sm2⟩, fun a ha => by cases ha⟩
        (fun j σ H3 _ h => by obtain ⟨bs, y, _, _, e, _⟩ := h; exact sq e) ?_ ?_⟩
      · intro j x σ H3 hx h
        obtain ⟨r, hr, rfl⟩ := get_ref hx
        obtain ⟨bs, y, rfl, sm3, eR3, hrs3, ⟨eF3, hLL3⟩, hbs⟩ := h
        obtain ⟨ns, hns, er⟩ := hrs3.get hr
        have hjl := (List.getElem?_eq_some_iff.mp hns).1
        have hnl : ns.length ≤ 18 := by
          have := parts_elt n (c - (M - i)) (M - i) ns (by rw [hpp]; exact List.mem_of_getElem? hns)
          omega
        have hl3 := hLL3.len
        rw [List.length_append, List.length_append, List.length_map, List.length_take] at hl3
        -- found.append([pile] + rest)
        refine ⟨_, rfl, .inl ⟨rfl, _, sq eF3⟩, _, rfl, (by show 1 ≤ sizeLine; decide), fun p1 n1 => ?_⟩
        have s1 := same_new n1 (.lst [V.int ((M - i : Nat) : Int)])
        refine ⟨_, rfl, p1, r, _, _, rfl, rfl, upd_same, s1 _ _ er, by rw [nlen]; exact small (by show 1 + ns.length ≤ _; omega), fun p2 n2 => ?_⟩
        have s2 := same_new n2 (.lst ([V.int ((M - i : Nat) : Int)] ++ ns.map V.int))
        have e2 : IL (upd (upd H3 p1 (.lst [V.int ((M - i : Nat) : Int)])) p2 (.lst ([V.int ((M - i : Nat) : Int)] ++ ns.map V.int))) p2 (((M - i : Nat) : Int) :: ns) := upd_same
        have s12 := s1.trans s2
        have n2' : H3 p2 = none := s1.free n2
        generalize upd (upd H3 p1 (.lst [V.int ((M - i : Nat) : Int)])) p2 (.lst ([V.int ((M - i : Nat) : Int)] ++ ns.map V.int)) = H4 at *
        have eF4 := s12 _ _ eF3
        have nFp : p2 ≠ F := (ne_of_none eF3 n2').symm
        refine ⟨F, _, _, rfl, rfl, eF4, by rw [rlen, List.length_append]; exact smallM (by omega), ?_⟩
        have rne : ∀ a ∈ rs, a ≠ F := fun a ha e => by
          rw [e] at ha
          exact absurd (nrs F ha) (by rw [eF]; intro z; cases z)
        refine ⟨bs ++ [p2], some (.ref r), rfl, same_mut (sm3.trans s12) nF _, ?_, (hrs3.same s12).upd rne, ⟨?_, ?_⟩, fun a ha => ?_⟩
        · rw [upd_ne nRF]
          exact s12 _ _ eR3
        · simp only [upd_same, List.map_append, List.append_assoc]
          rfl
        · rw [take_snoc hns]
          simp only [List.map_append, ← List.append_assoc]
          refine LLs.upd (fun a ha => ?_) ((hLL3.same s12).app ⟨e2, trivial⟩)
          rcases List.mem_append.mp ha with ha | ha
          · rcases List.mem_append.mp ha with ha | ha
            · exact (has a ha).2
            · exact (hbs a ha).2
          · rw [List.mem_singleton.mp ha]
            exact nFp
        · rcases List.mem_append.mp ha with ha | ha
          · exact hbs a ha
          · rw [List.mem_singleton.mp ha]
            exact ⟨sm3.free n2', nFp⟩
      · intro σ H3 h
        obtain ⟨bs, y, rfl, sm3, eR3, hrs3, hLL3, hbs⟩ := h
        rw [rlen, hrl, List.take_length] at hLL3
        refine ⟨as ++ bs, _, _, rfl, sm3, ?_, fun a ha => ?_⟩
        · have : groups (fun p => parts n (c - p) p) M (i + 1) = groups (fun p => parts n (c - p) p) M i ++ (parts n (c - (M - i)) (M - i)).map (((M - i : Nat) : Int) :: ·) := rfl
          rw [this, hgr, hpp]
          exact hLL3
        · rcases List.mem_append.mp ha with ha | ha
          · exact has a ha
          · exact hbs a ha
    · intro σ H' h
      obtain ⟨as, y1, y2, rfl, sm, hLL, has⟩ := h
      rw [show ((M : Int) - 0).toNat = M by omega] at hLL
      exact ⟨_, rfl, q H' F as sm nF (fun a ha => (has a ha).1) hLL⟩
theorem rec_settings_by (T : Txt K mg) : ∀ n : Nat, Cal P w K mg base CX0 n "settings_by" ["coins", "most"] (sp_settings_by n)
  | 0 => by
    obtain ⟨fd, F, g⟩ := T.d_settings_by
    have no : ∀ vs H Q E, ¬ sp_settings_by 0 vs H Q E := fun vs H Q E h => by
      obtain ⟨c, m, _, h1, _⟩ := h
      omega
    exact ⟨_, fd, ⟨fun vs H Q E h => absurd h (no vs H Q E), fun A outer s H args us vs Q E _ _ _ _ h => absurd h (no vs H Q E)⟩, g, F.kp, F.bindsN (fun _ _ _ _ _ _ us hl => match us, hl with | [_, _], _ => rfl)⟩
  | n + 1 => step_settings_by T (rec_settings_by T n)
theorem ok_settings_by (T : Txt K mg) : Cal P w K mg base CX0 20 "settings_by" ["coins", "most"] (sp_settings_by 20) := rec_settings_by T 20

end

section
variable {P : Program} {w : World} {K : PySem.W.Frag} {mg : Str → Option Value} {base : Heap}
theorem sc_settings_of : FnScope ["coins"] ["coins"] (defScope s_settings_of) := ⟨rfl, rfl, rfl, by decide +kernel, rfl, by decide +kernel, by decide +kernel⟩
def sp_settings_of (K : PySem.W.Frag) : Sp := fun vs H Q E => ∃ z : Int, vs = [.int z] ∧ (1 ≤ z ∧ z ≤ 18 → NLL Q H (parts 20 z.toNat z.toNat)) ∧ (¬ (1 ≤ z ∧ z ≤ 18) → E (.ref (He.ga K "NoNumber")) none H)
theorem ok_settings_of (T : Txt K mg) : Cal P w K mg base (L2N.CX P w) 21 "settings_of" ["coins"] (sp_settings_of K) := by
  have C_must_count := ok_must_count (P := P) (w := w) (base := base) T
  have C_settings_by := ok_settings_by (P := P) (w := w) (base := base) T
  refine cal_mkX T.d_settings_of sc_settings_of ?_ (fun _ _ _ _ _ _ us hl => match us, hl with | [_], _ => rfl) (fun f cdv A outer s H vs Q E hr h tk => ?_)
  · intro vs H Q E h
    obtain ⟨z, rfl, _⟩ := h
    rfl
  obtain ⟨z, rfl, q, e⟩ := h
  refine ⟨_, (pss_cons (ps_expr (pe_callX C_must_count tk (hr.mono (by decide)) (pa_cons (pv 0) (pa_cons pe_int pa_nil))))
      (pss_one (ps_ret (pe_callF C_settings_by (hr.mono (by decide)) (pa_cons (pv 0) (pa_cons (pv 0) pa_nil)))))), ?_⟩
  refine ⟨_, rfl, z, 18, rfl, fun hz => ?_, fun no => e no⟩
  obtain ⟨c, rfl⟩ : ∃ c : Nat, z = c := ⟨z.toNat, by omega⟩
  have h1 : 1 ≤ c := by omega
  have h2 : c ≤ 18 := by omega
  replace q := q hz
  rw [Int.toNat_natCast] at q
  clear e hz
  exact ⟨_, rfl, _, rfl, c, c, rfl, by omega, by omega, by omega, q⟩

end

section
variable {P : Program} {w : World} {K : PySem.W.Frag} {mg : Str → Option Value} {base : Heap}
theorem sc_rings_many : FnScope ["coins", "stair", "rest", "total", "turns", "alike", "block"] ["coins"] (defScope s_rings_many) := ⟨rfl, rfl, rfl, by decide +kernel, rfl, by decide +kernel, by decide +kernel⟩
theorem ring_fit {s r t : Nat} (hs : 1 ≤ s) (hr : r ≤ s) : 1 ≤ Nat.gcd s t ∧ Nat.gcd s t ≤ s ∧ 1 ≤ s / Nat.gcd s t ∧ s / Nat.gcd s t ≤ s ∧ r / (s / Nat.gcd s t) ≤ Nat.gcd s t := by
  have h0 : 0 < Nat.gcd s t := Nat.gcd_pos_of_pos_left t hs
  have hd := Nat.gcd_dvd_left s t
  have h1 := Nat.le_of_dvd hs hd
  have h2 := Nat.div_pos h1 h0
  refine ⟨h0, h1, h2, Nat.div_le_self _ _, ?_⟩
  have h3 : r / (s / Nat.gcd s t) ≤ s / (s / Nat.gcd s t) := Nat.div_le_div_right hr
  rw [Nat.div_div_self hd (by omega)] at h3
  exact h3
def sp_rings_many (K : PySem.W.Frag) : Sp := fun vs H Q E => ∃ z : Int, vs = [.int z] ∧ (1 ≤ z ∧ z ≤ 2000 → Q (.int (ringsN (stair z.toNat) (restOf z.toNat))) H) ∧ (¬ (1 ≤ z ∧ z ≤ 2000) → E (.ref (He.ga K "NoNumber")) none H)
theorem ok_rings_many (T : Txt K mg) : Cal P w K mg base (L2N.CX P w) 2 "rings_many" ["coins"] (sp_rings_many K) := by
  have C_chosen := ok_chosen (P := P) (w := w) (base := base) T
  have C_common := ok_common (P := P) (w := w) (base := base) T
  have C_must_count := ok_must_count (P := P) (w := w) (base := base) T
  have C_stair_of := ok_stair_of (P := P) (w := w) (base := base) T
  refine cal_mkX T.d_rings_many sc_rings_many ?_ (fun _ _ _ _ _ _ us hl => match us, hl with | [_], _ => rfl) (fun f cdv A outer s H vs Q E hr h tk => ?_)
  · intro vs H Q E h
    obtain ⟨z, rfl, _⟩ := h
    rfl
  obtain ⟨z, rfl, q, e⟩ := h
  refine ⟨_, (pss_cons (ps_expr (pe_callX C_must_count tk (hr.mono (by decide)) (pa_cons (pv 0) (pa_cons pe_int pa_nil))))
      (pss_cons (ps_set (i := 1) sc_rings_many.nd rfl (Or.inl rfl) (pe_callF C_stair_of (hr.mono (by decide)) (pa_cons (pv 0) pa_nil)))
      (pss_cons (ps_set (i := 2) sc_rings_many.nd rfl (Or.inl rfl) (pe_op op_sub (pv 0) (pe_op op_fdiv (pe_op op_mul (pv 1) (pe_op op_sub (pv 1) pe_int)) pe_int)))
      (pss_cons (ps_set (i := 3) sc_rings_many.nd rfl (Or.inl rfl) pe_int)
      (pss_cons (ps_for (passes_of rfl) rfl (pi_range1 (by rfl) T.m_range (pa_cons (pv 1) pa_nil)) (pg_name (i := 4) sc_rings_many.nd rfl (Or.inl rfl))
      (pss_cons (ps_set (i := 5) sc_rings_many.nd rfl (Or.inl rfl) (pe_callF C_common (hr.mono (by decide)) (pa_cons (pv 1) (pa_cons (pv 4) pa_nil))))
      (pss_cons (ps_set (i := 6) sc_rings_many.nd rfl (Or.inl rfl) (pe_op op_fdiv (pv 1) (pv 5)))
      (pss_one (ps_if (pt_cmpR op_eq (pe_op op_mod (pv 2) (pv 6)) pe_int (nomark _))
      (pss_one (ps_set (i := 3) sc_rings_many.nd rfl (Or.inl rfl) (pe_op op_add (pv 3) (pe_callF C_chosen (hr.mono (by decide)) (pa_cons (pv 5) (pa_cons (pe_op op_fdiv (pv 2) (pv 6)) pa_nil)))))) pss_nil)))))
      (pss_one (ps_ret (pe_op op_fdiv (pv 3) (pv 1))))))))), ?_⟩
  refine ⟨_, rfl, z, 2000, rfl, fun hz => ?_, fun no => e no⟩
  obtain ⟨n, rfl⟩ : ∃ n : Nat, z = n := ⟨z.toNat, by omega⟩
  have h1 : 1 ≤ n := by omega
  have h2 : n ≤ 2000 := by omega
  replace q := q hz
  rw [Int.toNat_natCast] at q
  clear e hz
  obtain ⟨r1, r2, r3⟩ := rest_spec h1
  have hs := stair_le h1 (b := 63) (by omega) (by omega)
  have hs1 := (stair_spec h1).1
  refine ⟨_, rfl, n, rfl, h1, by omega, ?_⟩
  generalize hst : stair n = S at *
  generalize hro : restOf n = R at *
  have e1 : (n : Int) - (S : Int) * ((S : Int) - 1) / 2 = (R : Int) := by
    have : (S : Int) * ((S : Int) - 1) = ((S * (S - 1) : Nat) : Int) := by
      rw [Int.natCast_mul]
      congr 1
      omega
    rw [this]
    omega
  refine ⟨_, rfl, _, rfl, _, rfl, _, _, rfl, rfl, _, _, rfl, rfl, .inl ⟨by omega, by omega⟩, _, _, rfl, rfl, ⟨by decide, by decide⟩, _, _, rfl, rfl, ?_⟩
  refine ⟨_, rfl, S, rfl, by omega, by omega, for_range (lo := 0) (n := (S : Int).toNat) (fun i σ H' => ∃ y1 y2 y3, σ = [some (.int n), some (.int S), some (.int ((n : Int) - (S : Int) * ((S : Int) - 1) / 2)), some (.int (sumTo (ringT S R) i)), y1, y2, y3] ∧ H' = H) ⟨none, none, none, rfl, rfl⟩ ?_ ?_⟩
  · intro i σ H' hi h
    obtain ⟨y1, y2, y3, rfl, rfl⟩ := h
    rw [e1]
    obtain ⟨f1, f2, f3, f4, f5⟩ := ring_fit (t := i) hs1 r2
    refine ⟨_, rfl, _, rfl, S, i, by rw [Int.zero_add] <;> rfl, ?_⟩
    have ht : sumTo (ringT S R) (i + 1) = sumTo (ringT S R) i + ringT S R i := rfl
    rw [ht]
    unfold ringT
    generalize hgc : Nat.gcd S i = A at *
    refine ⟨_, rfl, _, rfl, _, _, rfl, rfl, ⟨by show (0 : Int) < (A : Int); omega, by show (A : Int) < 1073741824; omega⟩, ?_⟩
    have hb : (S : Int) / (A : Int) = ((S / A : Nat) : Int) := rfl
    refine ⟨_, rfl, _, rfl, _, _, rfl, rfl, (by show (0 : Int) < ((S / A : Nat) : Int); omega), rfl, _, rfl, ite2 (fun c => ?_) (fun c => ?_)⟩
    · have c' : ((R % (S / A) : Nat) : Int) = 0 := V.int.inj (of_decide_eq_true c)
      rw [if_pos (by omega)]
      refine ⟨_, rfl, _, rfl, _, rfl, _, rfl, _, _, rfl, rfl, ⟨by show (0 : Int) < ((S / A : Nat) : Int); omega, by show ((S / A : Nat) : Int) < 1073741824; omega⟩, A, R / (S / A), rfl, f5, by omega, _, _, rfl, rfl, ?_⟩
      exact ⟨_, _, _, rfl, rfl⟩
    · have c' : ¬ ((R % (S / A) : Nat) : Int) = 0 := fun e => c (decide_eq_true (congrArg V.int e))
      rw [if_neg (by omega)]
      exact ⟨_, _, _, rfl, rfl⟩
  · intro σ H' h
    obtain ⟨y1, y2, y3, rfl, rfl⟩ := h
    rw [Int.toNat_natCast]
    exact ⟨_, rfl, _, rfl, _, _, rfl, rfl, ⟨by show (0 : Int) < (S : Int); omega, by show (S : Int) < 1073741824; omega⟩, q⟩

end

section
variable {P : Program} {w : World} {K : PySem.W.Frag} {mg : Str → Option Value} {base : Heap}
theorem sc_rings_of : FnScope ["coins", "stair", "found", "seen", "marks", "first", "ring", "setting"] ["coins"] (defScope s_rings_of) := ⟨rfl, rfl, rfl, by decide +kernel, rfl, by decide +kernel, by decide +kernel⟩
def sp_rings_of (K : PySem.W.Frag) : Sp := fun vs H Q E => ∃ z : Int, vs = [.int z] ∧ (1 ≤ z ∧ z ≤ 36 → NL3 Q H (rings z.toNat)) ∧ (¬ (1 ≤ z ∧ z ≤ 36) → E (.ref (He.ga K "NoNumber")) none H)
theorem ok_rings_of (T : Txt K mg) : Cal P w K mg base (L2N.CX P w) 21 "rings_of" ["coins"] (sp_rings_of K) := by
  have C_all_marks := ok_all_marks (P := P) (w := w) (base := base) T
  have C_must_count := ok_must_count (P := P) (w := w) (base := base) T
  have C_ring_by := ok_ring_by (P := P) (w := w) (base := base) T
  have C_setting_by := ok_setting_by (P := P) (w := w) (base := base) T
  have C_stair_of := ok_stair_of (P := P) (w := w) (base := base) T
  refine cal_mkX T.d_rings_of sc_rings_of ?_ (fun _ _ _ _ _ _ us hl => match us, hl with | [_], _ => rfl) (fun f cdv A outer s H vs Q E hr h tk => ?_)
  · intro vs H Q E h
    obtain ⟨z, rfl, _⟩ := h
    rfl
  obtain ⟨z, rfl, q, e⟩ := h
  have hu := hu1 hr
  refine ⟨_, (pss_cons (ps_expr (pe_callX C_must_count tk (hr.mono (by decide)) (pa_cons (pv 0) (pa_cons pe_int pa_nil))))
      (pss_cons (ps_set (i := 1) sc_rings_of.nd rfl (Or.inl rfl) (pe_callF C_stair_of (hr.mono (by decide)) (pa_cons (pv 0) pa_nil)))
      (pss_cons (ps_set (i := 2) sc_rings_of.nd rfl (Or.inl rfl) (pe_lst pa_nil))
      (pss_cons (ps_set (i := 3) sc_rings_of.nd rfl (Or.inl rfl) pe_dnewT)
      (pss_cons (ps_for (passes_of rfl) rfl (pi_list (pe_callF C_all_marks (hr.mono (by decide)) (pa_cons (pv 1) (pa_cons (pe_op op_sub (pv 0) (pe_op op_fdiv (pe_op op_mul (pv 1) (pe_op op_sub (pv 1) pe_int)) pe_int)) pa_nil)))) (pg_name (i := 4) sc_rings_of.nd rfl (Or.inl rfl))
      (pss_cons (ps_set (i := 5) sc_rings_of.nd rfl (Or.inl rfl) (pe_callF C_setting_by (hr.mono (by decide)) (pa_cons (pv 4) pa_nil)))
      (pss_one (ps_if (pt_cmp (pc_dnotin hu (pe_callTy (T := "tuple") call_tuple_of (by rfl) T.m_tuple (by decide +kernel) (pa_cons (pv 5) pa_nil)) (pv 3)))
      (pss_cons (ps_set (i := 6) sc_rings_of.nd rfl (Or.inl rfl) (pe_callF C_ring_by (hr.mono (by decide)) (pa_cons (pv 5) pa_nil)))
      (pss_cons (ps_for (passes_of rfl) rfl (pi_list (pv 6)) (pg_name (i := 7) sc_rings_of.nd rfl (Or.inl rfl))
      (pss_one (ps_dput hu (pv 3) (pe_callTy (T := "tuple") call_tuple_of (by rfl) T.m_tuple (by decide +kernel) (pa_cons (pv 7) pa_nil)) pe_bl rfl)))
      (pss_one (ps_expr (pe_bm PySem.F.plainAttrs_list PySem.F.slot_list_append PySem.F.type_list_append mt_append (pv 2) (pa_cons (pv 6) pa_nil)))))) pss_nil))))
      (pss_one (ps_ret (pv 2)))))))), ?_⟩
  refine ⟨_, rfl, z, 36, rfl, fun hz => ?_, fun no => e no⟩
  obtain ⟨n, rfl⟩ : ∃ n : Nat, z = n := ⟨z.toNat, by omega⟩
  have h1 : 1 ≤ n := by omega
  have h2 : n ≤ 36 := by omega
  replace q := q hz
  rw [Int.toNat_natCast] at q
  clear e hz
  obtain ⟨r1, r2, r3⟩ := rest_spec h1
  have hst := stair_le h1 (b := 8) (by omega) (by omega)
  have hst1 := (stair_spec h1).1
  have hmem : ∀ ms ∈ allM (stair n) (restOf n), Bits ms ∧ ms.length = stair n ∧ ms.sum = (restOf n : Int) := fun ms h => mem_allM.mp h
  have hset : ∀ ms ∈ allM (stair n) (restOf n), IsSet n (ofMarks ms) := fun ms h => ofMarks_set h1 (hmem ms h).1 (hmem ms h).2.1 (hmem ms h).2.2
  have hring : ∀ ms ∈ allM (stair n) (restOf n), ∃ d, d ≤ 14 ∧ Ring (ofMarks ms) d := fun ms h => by
    obtain ⟨b, l, s⟩ := hmem ms h
    obtain ⟨d, hd, hr⟩ := ofMarks_ring b (by omega)
    exact ⟨d, by omega, hr⟩
  have hMl := allM_len (stair n) (restOf n)
  have h2l : 2 ^ stair n ≤ 2 ^ 8 := Nat.pow_le_pow_right (by decide) hst
  refine ⟨_, rfl, n, rfl, h1, by omega, ?_⟩
  unfold rings at q
  generalize hMM : allM (stair n) (restOf n) = MM at *
  have e1 : (n : Int) - (stair n : Int) * ((stair n : Int) - 1) / 2 = (restOf n : Int) := by
    have : (stair n : Int) * ((stair n : Int) - 1) = ((stair n * (stair n - 1) : Nat) : Int) := by
      rw [Int.natCast_mul]
      congr 1
      omega
    rw [this]
    omega
  generalize stair n = S at *
  refine ⟨Nat.zero_le _, fun D nD => fun s ns => ?_⟩
  have s1 := same_new nD (.lst ([] : List V))
  have eD1 : (upd H D (.lst [])) D = some (.lst []) := upd_same
  have nsD : D ≠ s := ne_of_none eD1 ns
  have ns0 : H s = none := s1.free ns
  generalize upd H D (.lst []) = H1 at *
  have s2 := s1.trans (same_new ns (.dT []))
  have eD2 := same_new ns (.dT []) _ _ eD1
  have es2 : (upd H1 s (.dT [])) s = some (.dT []) := upd_same
  generalize upd H1 s (.dT []) = H2 at *
  refine ⟨_, rfl, _, rfl, _, rfl, _, rfl, _, _, rfl, rfl, _, _, rfl, rfl, .inl ⟨by omega, by omega⟩, _, _, rfl, rfl, ⟨by decide, by decide⟩, _, _, rfl, rfl, S, restOf n, congrArg (fun z => [V.int S, V.int z]) e1, by omega, by omega, fun H3 R rs sm3 nR nrs hR => ?_⟩
  rw [hMM] at hR
  obtain ⟨eR, hrs⟩ := hR
  have hrl := hrs.len
  have nRD : R ≠ D := (ne_of_none eD2 nR).symm
  have nRs : R ≠ s := (ne_of_none es2 nR).symm
  have rsD : ∀ a ∈ rs, a ≠ D := fun a ha => (ne_of_none eD2 (nrs a ha)).symm
  have rss : ∀ a ∈ rs, a ≠ s := fun a ha => (ne_of_none es2 (nrs a ha)).symm
  have s3 := s2.trans sm3
  have eD3 := sm3 _ _ eD2
  have es3 := sm3 _ _ es2
  clear s1 s2 eD1 ns eD2 es2 sm3 nR nrs
  let F : Addr → Prop := fun b => (H b = none ∧ b ≠ D) ∧ b ≠ s
  refine ⟨R, rfl, ⟨_, sq eR⟩, for_list (K := K) (a := R) (xs := rs.map V.ref) (fun i σ H' => ∃ (as : List Addr) (kvs : List (List Key × V)) (y4 y5 y6 y7 : Option V), σ = [some (.int n), some (.int S), some (.ref D), some (.ref s), y4, y5, y6, y7] ∧ Same H H' ∧ H' R = some (.lst (rs.map V.ref)) ∧ LLs H' rs MM ∧ H' D = some (.lst (as.map V.ref)) ∧ L3s F H' as (ringsF (MM.take i)) ∧ H' s = some (.dT kvs) ∧ (∀ x, (valV kvs (kT x)).isSome = true ↔ x ∈ (ringsF (MM.take i)).flatten) ∧ kvs.length ≤ 14 * i)
    ⟨[], [], none, none, none, none, rfl, s3, eR, hrs, eD3, trivial, es3, fun x => ⟨fun h => (by cases h), fun h => (by cases h)⟩, Nat.zero_le _⟩ (fun i σ H' _ h => by obtain ⟨_, _, _, _, _, _, _, _, e, _⟩ := h; exact sq e) ?_ ?_⟩
  · intro i x σ H' hx h
    obtain ⟨r, hr, rfl⟩ := get_ref hx
    obtain ⟨as, kvs, y4, y5, y6, y7, rfl, sm, eR, hrs, eD, hL, es, hk, hkl⟩ := h
    obtain ⟨ms, hms, er⟩ := hrs.get hr
    have hil := (List.getElem?_eq_some_iff.mp hms).1
    have hmm : ms ∈ MM := List.mem_of_getElem? hms
    obtain ⟨b, l, sums⟩ := hmem ms hmm
    have hsx := hset ms hmm
    obtain ⟨d, hd, hrg⟩ := hring ms hmm
    have hal := hL.len
    have hfl := ringsF_len MM i
    have hst : ringsF (MM.take (i + 1)) = addRing (ringsF (MM.take i)) ms := by rw [take_snoc hms, ringsF_snoc]
    have hro := ringOf_eq hrg hd
    rw [hst]
    unfold addRing
    refine ⟨_, rfl, r, ms, rfl, er, by omega, fun H4 f sm4 nf ef => ?_⟩
    have hxl := hsx.len
    generalize ofMarks ms = x at *
    generalize hfo : ringsF (MM.take i) = fo at *
    refine ⟨_, rfl, f, _, rfl, .inl ⟨sq ef, fun l nl => ⟨_, rfl, ?_⟩⟩⟩
    have sl := same_new nl (.tup (x.map V.int))
    have el : (upd H4 l (.tup (x.map V.int))) l = some (.tup ((kT x).map kV)) := by
      rw [kT_map]
      exact upd_same
    have sm5 := (sm.trans sm4).trans sl
    have s45 := sm4.trans sl
    have eR5 := s45 _ _ eR
    have hrs5 := hrs.same s45
    have eD5 := s45 _ _ eD
    have hL5 := hL.same s45
    have es5 := s45 _ _ es
    have ef5 := sl _ _ ef
    clear sm4 sl s45 eR hrs eD hL es ef nl er
    generalize upd H4 l (.tup (x.map V.int)) = H5 at *
    refine ⟨s, _, rfl, DGet.t es5 el, _, rfl, ite2 (fun c => ?_) (fun c => ?_)⟩
    · have hno : ¬ x ∈ fo.flatten := fun hm => by
        rw [(hk x).mpr hm] at c
        cases c
      rw [if_neg hno, hro]
      refine ⟨_, rfl, f, x, n, d, rfl, ef5, hsx, by omega, hrg, by omega, fun H6 G gs sm6 nG ngs hG => ?_⟩
      have sm6' := sm5.trans sm6
      have eR6 := sm6 _ _ eR5
      have hrs6 := hrs5.same sm6
      have eD6 := sm6 _ _ eD5
      have hL6 := hL5.same sm6
      have es6 := sm6 _ _ es5
      obtain ⟨eG, hGs⟩ := hG
      have nGD : G ≠ D := (ne_of_none eD5 nG).symm
      have nGs : G ≠ s := (ne_of_none es5 nG).symm
      have nGR : G ≠ R := (ne_of_none eR5 nG).symm
      have gsD : ∀ a ∈ gs, a ≠ D := fun a ha => (ne_of_none eD5 (ngs a ha)).symm
      have gss : ∀ a ∈ gs, a ≠ s := fun a ha => (ne_of_none es5 (ngs a ha)).symm
      have nG0 : H G = none := sm5.free nG
      have ngs0 : ∀ a ∈ gs, H a = none := fun a ha => sm5.free (ngs a ha)
      have hgl := hGs.len
      rw [ringL_len] at hgl
      clear eR5 hrs5 eD5 hL5 es5 nG ngs
      refine ⟨_, rfl, G, rfl, ⟨_, sq eG⟩, for_list (K := K) (a := G) (xs := gs.map V.ref) (fun j σ H' => ∃ (kvs' : List (List Key × V)) (y7 : Option V), σ = [some (.int n), some (.int S), some (.ref D), some (.ref s), some (.ref r), some (.ref f), some (.ref G), y7] ∧ Same H H' ∧ H' R = some (.lst (rs.map V.ref)) ∧ LLs H' rs MM ∧ H' D = some (.lst (as.map V.ref)) ∧ L3s F H' as fo ∧ H' G = some (.lst (gs.map V.ref)) ∧ LLs H' gs (ringL d x) ∧ H' s = some (.dT kvs') ∧ (∀ y, (valV kvs' (kT y)).isSome = true ↔ y ∈ fo.flatten ++ (ringL d x).take j) ∧ kvs'.length ≤ 14 * i + j)
        ⟨kvs, y7, rfl, sm6', eR6, hrs6, eD6, hL6, eG, hGs, es6, fun y => by rw [List.take_zero, List.append_nil]; exact hk y, hkl⟩ (fun j σ H' _ h => by obtain ⟨_, _, _, _, _, _, _, _, e, _⟩ := h; exact sq e) ?_ ?_⟩
      · intro j x' σ H' hx h
        obtain ⟨g, hg, rfl⟩ := get_ref hx
        obtain ⟨kvs', y7, rfl, sm, eR, hrs, eD, hL, eG, hGs, es, hk, hkl⟩ := h
        obtain ⟨z, hz, eg⟩ := hGs.get hg
        have hjl := (List.getElem?_eq_some_iff.mp hz).1
        rw [ringL_len] at hjl
        refine ⟨_, rfl, _, rfl, g, _, rfl, .inl ⟨sq eg, fun l2 nl2 => ?_⟩⟩
        have sl := same_new nl2 (.tup (z.map V.int))
        have el : (upd H' l2 (.tup (z.map V.int))) l2 = some (.tup ((kT z).map kV)) := by
          rw [kT_map]
          exact upd_same
        have sm7 := sm.trans sl
        have eR7 := sl _ _ eR
        have hrs7 := hrs.same sl
        have eD7 := sl _ _ eD
        have hL7 := hL.same sl
        have eG7 := sl _ _ eG
        have hGs7 := hGs.same sl
        have es7 := sl _ _ es
        clear sm sl eR hrs eD hL eG hGs es nl2 eg
        generalize upd H' l2 (.tup (z.map V.int)) = H7 at *
        refine ⟨s, _, rfl, DPut.t es7 el (smallL (by omega)), ?_⟩
        have hpl := length_putK kvs' (kT z) (.bl true)
        refine ⟨_, _, rfl, same_mut sm7 ns0 _, by rw [upd_ne nRs]; exact eR7, hrs7.upd rss, by rw [upd_ne nsD]; exact eD7, hL7.upd (fun a h => h.2), by rw [upd_ne nGs]; exact eG7, hGs7.upd gss, upd_same, fun y => ?_, by omega⟩
        rw [valV_put, take_snoc hz, ← List.append_assoc]
        by_cases e : y = z
        · subst e
          rw [if_pos rfl]
          exact ⟨fun _ => List.mem_append_right _ (List.mem_singleton.mpr rfl), fun _ => rfl⟩
        · rw [if_neg fun h => e (kT_inj h), hk y]
          constructor
          · intro h
            exact List.mem_append_left _ h
          · intro h
            rcases List.mem_append.mp h with h | h
            · exact h
            · exact absurd (List.mem_singleton.mp h) e
      · intro σ H' h
        obtain ⟨kvs', y7, rfl, sm, eR, hrs, eD, hL, eG, hGs, es, hk, hkl⟩ := h
        rw [rlen, hgl] at hk hkl
        rw [List.take_of_length_le (by rw [ringL_len]; exact Nat.le_refl _)] at hk
        refine ⟨_, rfl, .inl ⟨rfl, _, sq eD⟩, _, rfl, D, _, _, rfl, rfl, eD, by rw [rlen]; exact smallL (by omega), ?_⟩
        refine ⟨as ++ [G], kvs', _, _, _, _, rfl, same_mut sm nD _, by rw [upd_ne nRD]; exact eR, hrs.upd rsD, by rw [upd_same, List.map_append] <;> rfl, (hL.upd (fun a h => h.1.2)).app ⟨⟨⟨⟨nG0, nGD⟩, nGs⟩, gs, ⟨by rw [upd_ne nGD]; exact eG, hGs.upd gsD⟩, fun b hb => ⟨⟨ngs0 b hb, gsD b hb⟩, gss b hb⟩⟩, trivial⟩, by rw [upd_ne nsD.symm]; exact es, fun y => ?_, by omega⟩
        rw [hk y, List.flatten_append, List.flatten_cons, List.flatten_nil, List.append_nil]
    · have hyes : x ∈ fo.flatten := by
        by_cases hm : x ∈ fo.flatten
        · exact hm
        · refine absurd ?_ c
          cases hv : valV kvs (kT x) with
          | none => rfl
          | some v => exact absurd ((hk x).mp (by rw [hv]; rfl)) hm
      rw [if_pos hyes]
      exact ⟨as, kvs, _, _, _, _, rfl, sm5, eR5, hrs5, eD5, hL5, es5, hk, by omega⟩
  · intro σ H' h
    obtain ⟨as, kvs, y4, y5, y6, y7, rfl, sm, eR, hrs, eD, hL, es, hk, hkl⟩ := h
    rw [rlen, hrl, List.take_length] at hL
    exact ⟨_, rfl, q H' D as sm nD eD (hL.mono fun a h => h.1)⟩

end

section
variable {P : Program} {w : World} {K : PySem.W.Frag} {mg : Str → Option Value} {base : Heap}
theorem sc_drawn_in : FnScope ["coins", "ring_at", "counts", "ring", "setting", "here", "at"] ["coins"] (defScope s_drawn_in) := ⟨rfl, rfl, rfl, by decide +kernel, rfl, by decide +kernel, by decide +kernel⟩
def sp_drawn_in (K : PySem.W.Frag) : Sp := fun vs H Q E => ∃ z : Int, vs = [.int z] ∧ (1 ≤ z ∧ z ≤ 18 → NL Q H (cnts z.toNat)) ∧ (¬ (1 ≤ z ∧ z ≤ 18) → E (.ref (He.ga K "NoNumber")) none H)
theorem ok_drawn_in (T : Txt K mg) : Cal P w K mg base (L2N.CX P w) 22 "drawn_in" ["coins"] (sp_drawn_in K) := by
  have C_marks_by := ok_marks_by (P := P) (w := w) (base := base) T
  have C_must_count := ok_must_count (P := P) (w := w) (base := base) T
  have C_rings_of := ok_rings_of (P := P) (w := w) (base := base) T
  have C_settings_of := ok_settings_of (P := P) (w := w) (base := base) T
  have C_turned_by := ok_turned_by (P := P) (w := w) (base := base) T
  refine cal_mkX T.d_drawn_in sc_drawn_in ?_ (fun _ _ _ _ _ _ us hl => match us, hl with | [_], _ => rfl) (fun f cdv A outer s H vs Q E hr h tk => ?_)
  · intro vs H Q E h
    obtain ⟨z, rfl, _⟩ := h
    rfl
  obtain ⟨z, rfl, q, e⟩ := h
  have hu := hu1 hr
  refine ⟨_, (pss_cons (ps_expr (pe_callX C_must_count tk (hr.mono (by decide)) (pa_cons (pv 0) (pa_cons pe_int pa_nil))))
      (pss_cons (ps_set (i := 1) sc_drawn_in.nd rfl (Or.inl rfl) pe_dnewT)
      (pss_cons (ps_set (i := 2) sc_drawn_in.nd rfl (Or.inl rfl) (pe_lst pa_nil))
      (pss_cons (ps_for (passes_of rfl) rfl (pi_list (pe_callX C_rings_of tk (hr.mono (by decide)) (pa_cons (pv 0) pa_nil))) (pg_name (i := 3) sc_drawn_in.nd rfl (Or.inl rfl))
      (pss_cons (ps_for (passes_of rfl) rfl (pi_list (pv 3)) (pg_name (i := 4) sc_drawn_in.nd rfl (Or.inl rfl))
      (pss_one (ps_dput hu (pv 1) (pe_callTy (T := "tuple") call_tuple_of (by rfl) T.m_tuple (by decide +kernel) (pa_cons (pv 4) pa_nil)) (pe_callB call_len_seq (by rfl) T.m_len PySem.boot_len (pa_cons (pv 2) pa_nil)) rfl)))
      (pss_one (ps_expr (pe_bm PySem.F.plainAttrs_list PySem.F.slot_list_append PySem.F.type_list_append mt_append (pv 2) (pa_cons pe_int pa_nil))))))
      (pss_cons (ps_for (passes_of rfl) rfl (pi_list (pe_callX C_settings_of tk (hr.mono (by decide)) (pa_cons (pv 0) pa_nil))) (pg_name (i := 4) sc_drawn_in.nd rfl (Or.inl rfl))
      (pss_cons (ps_set (i := 5) sc_drawn_in.nd rfl (Or.inl rfl) (pv 4))
      (pss_cons (ps_while (passes_of rfl) (pt_cmpR op_eq (pe_callB call_len_seq (by rfl) T.m_len PySem.boot_len (pa_cons (pe_callF C_marks_by (hr.mono (by decide)) (pa_cons (pv 5) pa_nil)) pa_nil)) pe_int (nomark _))
      (pss_one (ps_set (i := 5) sc_drawn_in.nd rfl (Or.inl rfl) (pe_callF C_turned_by (hr.mono (by decide)) (pa_cons (pv 5) pa_nil)))))
      (pss_cons (ps_set (i := 6) sc_drawn_in.nd rfl (Or.inl rfl) (pe_dget hu (pv 1) (pe_callTy (T := "tuple") call_tuple_of (by rfl) T.m_tuple (by decide +kernel) (pa_cons (pv 5) pa_nil)) (fun _ _ => rfl)))
      (pss_one (ps_asg (pe_op op_add (pe_ix ix_list (pv 2) (pv 6) (fun _ _ => rfl)) pe_int) (pg_sub (pv 2) (pv 6) set_list)))))))
      (pss_one (ps_ret (pv 2)))))))), ?_⟩
  refine ⟨_, rfl, z, 18, rfl, fun hz => ?_, fun no => e no⟩
  obtain ⟨n, rfl⟩ : ∃ n : Nat, z = n := ⟨z.toNat, by omega⟩
  have h1 : 1 ≤ n := by omega
  have h2 : n ≤ 18 := by omega
  replace q := q hz
  rw [Int.toNat_natCast] at q
  clear e hz
  obtain ⟨_, _, hps⟩ := parts18 ⟨n, by omega⟩ h1
  replace hps : ∀ s ∈ parts 20 n n, (∀ x ∈ s, 1 ≤ x) ∧ s.Pairwise (· ≥ ·) ∧ s ≠ [] ∧ s.sum = (n : Int) := hps
  have hpset : ∀ s ∈ parts 20 n n, IsSet n s := fun s hs => ⟨⟨(hps s hs).1, (hps s hs).2.1, (hps s hs).2.2.1⟩, (hps s hs).2.2.2⟩
  have hre := fun (r : List (List Int)) (hr : r ∈ rings n) => rings_elt h1 hr
  have hra := fun (x : List Int) (hx : IsSet n x) (hm : marksBy x ≠ []) => rings_at h1 hx hm
  have hrl := rings_many_le h1 (by omega)
  have hrn := fun (r : List (List Int)) (hr : r ∈ rings n) => rings_len hr
  refine fun D nD => ⟨Nat.zero_le _, fun C nC => ?_⟩
  unfold cnts at q
  generalize hrg : rings n = rg at *
  have s1 := same_new nD (.dT [])
  have eD1 : (upd H D (.dT [])) D = some (.dT []) := upd_same
  have nDC : D ≠ C := ne_of_none eD1 nC
  have nC0 : H C = none := s1.free nC
  generalize upd H D (.dT []) = H1 at *
  have s2 := s1.trans (same_new nC (.lst ([] : List V)))
  have eD2 := same_new nC (.lst ([] : List V)) _ _ eD1
  have eC2 : IL (upd H1 C (.lst [])) C [] := upd_same
  generalize upd H1 C (.lst []) = H2 at *
  refine ⟨_, rfl, n, rfl, fun _ H3 R rs sm3 nR eR hR => ?_, fun no => absurd ⟨by omega, by omega⟩ no⟩
  rw [Int.toNat_natCast] at hR
  rw [hrg] at hR
  have hrsl := hR.len
  have s3 := s2.trans sm3
  have eD3 := sm3 _ _ eD2
  have eC3 := sm3 _ _ eC2
  have nRD : R ≠ D := (ne_of_none eD2 nR).symm
  have nRC : R ≠ C := (ne_of_none eC2 nR).symm
  have hR3 : L3s (fun b => b ≠ D ∧ b ≠ C) H3 rs rg := hR.mono fun b hb => ⟨(ne_of_none eD2 hb.1).symm, (ne_of_none eC2 hb.1).symm⟩
  clear s1 s2 eD1 eC2 eD2 nC nR sm3 hR
  refine ⟨R, rfl, ⟨_, sq eR⟩, for_list (K := K) (a := R) (xs := rs.map V.ref) (fun i σ H' => ∃ (kvs : List (List Key × V)) (y3 y4 : Option V), σ = [some (.int n), some (.ref D), some (.ref C), y3, y4, none, none] ∧ Same H H' ∧ H' R = some (.lst (rs.map V.ref)) ∧ L3s (fun b => b ≠ D ∧ b ≠ C) H' rs rg ∧ H' D = some (.dT kvs) ∧ (∀ x, valV kvs (kT x) = (atN rg x i).map fun k => V.int (k : Nat)) ∧ kvs.length ≤ 15 * i ∧ IL H' C (List.replicate i 0))
    ⟨[], none, none, rfl, s3, eR, hR3, eD3, fun x => rfl, Nat.zero_le _, eC3⟩ (fun i σ H' _ h => by obtain ⟨_, _, _, _, _, e, _⟩ := h; exact sq e) ?_ ?_⟩
  · intro i x σ H' hx h
    obtain ⟨r, hr', rfl⟩ := get_ref hx
    obtain ⟨kvs, y3, y4, rfl, sm, eR, hR, eD, hk, hkl, eC⟩ := h
    obtain ⟨ring, gs, hms, ⟨nrD, nrC⟩, ⟨er, hgs⟩, ngs⟩ := hR.get hr'
    have hil := (List.getElem?_eq_some_iff.mp hms).1
    have hgl := hgs.len
    have hrn15 := hrn ring (List.mem_of_getElem? hms)
    have hat : ∀ x, atN rg x (i + 1) = if x ∈ ring then some i else atN rg x i := fun x => by
      show (if x ∈ rg.getD i [] then some i else atN rg x i) = _
      rw [List.getD_eq_getElem?_getD, hms] <;> rfl
    refine ⟨_, rfl, r, rfl, ⟨_, sq er⟩, for_list (K := K) (a := r) (xs := gs.map V.ref) (fun j σ H' => ∃ (kvs : List (List Key × V)) (y4 : Option V), σ = [some (.int n), some (.ref D), some (.ref C), some (.ref r), y4, none, none] ∧ Same H H' ∧ H' R = some (.lst (rs.map V.ref)) ∧ L3s (fun b => b ≠ D ∧ b ≠ C) H' rs rg ∧ H' r = some (.lst (gs.map V.ref)) ∧ LLs H' gs ring ∧ H' D = some (.dT kvs) ∧ (∀ x, valV kvs (kT x) = if x ∈ ring.take j then some (V.int (i : Nat)) else (atN rg x i).map fun k => V.int (k : Nat)) ∧ kvs.length ≤ 15 * i + j ∧ IL H' C (List.replicate i 0))
      ⟨kvs, y4, rfl, sm, eR, hR, er, hgs, eD, fun x => by rw [List.take_zero, if_neg (by intro h; cases h)]; exact hk x, hkl, eC⟩ (fun j σ H' _ h => by obtain ⟨_, _, _, _, _, _, e, _⟩ := h; exact sq e) ?_ ?_⟩
    · intro j x' σ H' hx h
      obtain ⟨g, hg, rfl⟩ := get_ref hx
      obtain ⟨kvs, y4, rfl, sm, eR, hR, er, hgs, eD, hk, hkl, eC⟩ := h
      obtain ⟨z, hz, eg⟩ := hgs.get hg
      have hjl := (List.getElem?_eq_some_iff.mp hz).1
      refine ⟨_, rfl, C, _, rfl, .inl (sq eC), _, rfl, _, rfl, g, _, rfl, .inl ⟨sq eg, fun l2 nl2 => ?_⟩⟩
      have sl := same_new nl2 (.tup (z.map V.int))
      have el : (upd H' l2 (.tup (z.map V.int))) l2 = some (.tup ((kT z).map kV)) := by
        rw [kT_map]
        exact upd_same
      have sm7 := sm.trans sl
      have eR7 := sl _ _ eR
      have hR7 := hR.same sl
      have eD7 := sl _ _ eD
      have er7 := sl _ _ er
      have hgs7 := hgs.same sl
      have eC7 := sl _ _ eC
      clear sm sl eR hR eD er hgs eC nl2 eg
      generalize upd H' l2 (.tup (z.map V.int)) = H7 at *
      refine ⟨D, _, rfl, DPut.t eD7 el (smallL (by omega)), ?_⟩
      have hpl := length_putK kvs (kT z) (V.int (((List.replicate i (0 : Int)).map V.int).length : Int))
      refine ⟨_, _, rfl, same_mut sm7 nD _, by rw [upd_ne nRD]; exact eR7, hR7.upd (fun a h => h.1), by rw [upd_ne nrD]; exact er7, hgs7.upd (fun a h => (ngs a h).1), upd_same, fun y => ?_, by omega, by show upd _ _ _ _ = _; rw [upd_ne nDC.symm]; exact eC7⟩
      rw [valV_put, take_snoc hz, nlen, List.length_replicate]
      by_cases e : y = z
      · subst e
        rw [if_pos rfl, if_pos (List.mem_append_right _ (List.mem_singleton.mpr rfl))]
      · rw [if_neg fun h => e (kT_inj h), hk y]
        by_cases c : y ∈ ring.take j
        · rw [if_pos c, if_pos (List.mem_append_left _ c)]
        · rw [if_neg c, if_neg fun h => by
            rcases List.mem_append.mp h with h | h
            · exact c h
            · exact e (List.mem_singleton.mp h)]
    · intro σ H' h
      obtain ⟨kvs, y4, rfl, sm, eR, hR, er, hgs, eD, hk, hkl, eC⟩ := h
      rw [rlen, hgl] at hk hkl
      refine ⟨_, rfl, .inl ⟨rfl, _, sq eC⟩, C, _, _, rfl, rfl, eC, by rw [nlen, List.length_replicate]; exact smallL (by omega), ?_⟩
      refine ⟨kvs, _, _, rfl, same_mut sm nC0 _, by rw [upd_ne nRC]; exact eR, hR.upd (fun a h => h.2), by rw [upd_ne nDC]; exact eD, fun x => ?_, by omega, ?_⟩
      · rw [hk x, hat x, List.take_length]
        by_cases c : x ∈ ring
        · rw [if_pos c, if_pos c] <;> rfl
        · rw [if_neg c, if_neg c]
      · show upd _ _ _ _ = _
        rw [upd_same, List.replicate_succ', List.map_append] <;> rfl
  · intro σ H5 h
    obtain ⟨kvs, y3, y4, rfl, sm, eR, hR, eD, hk, hkl, eC⟩ := h
    rw [rlen, hrsl] at hk eC
    clear hR eR hkl s3 eD3 eC3 hR3
    refine ⟨_, rfl, n, rfl, fun _ H6 P ps sm6 nP nps hP => ?_, fun no => absurd ⟨by omega, by omega⟩ no⟩
    rw [Int.toNat_natCast] at hP
    have nPC : P ≠ C := (ne_of_none eC nP).symm
    have psC : ∀ a ∈ ps, a ≠ C := fun a ha => (ne_of_none eC (nps a ha)).symm
    have hpl := hP.2.len
    rw [← cntsL_nil] at eC
    have eD6 := sm6 _ _ eD
    have eC6 := sm6 _ _ eC
    have sm06 := sm.trans sm6
    clear sm eD eC nP nps
    generalize hPP : parts 20 n n = PP at *
    refine ⟨P, rfl, ⟨_, sq hP.1⟩, for_list (K := K) (a := P) (xs := ps.map V.ref) (fun i σ H' => ∃ (y4 y5 y6 : Option V), σ = [some (.int n), some (.ref D), some (.ref C), y3, y4, y5, y6] ∧ Same H H' ∧ H' P = some (.lst (ps.map V.ref)) ∧ LLs H' ps PP ∧ H' D = some (.dT kvs) ∧ IL H' C (cntsL rg (PP.take i)))
      ⟨y4, none, none, rfl, sm06, hP.1, hP.2, eD6, eC6⟩ (fun i σ H' _ h => by obtain ⟨_, _, _, _, _, e, _⟩ := h; exact sq e) ?_ ?_⟩
    · intro i x σ H' hx h
      obtain ⟨b0, hb0, rfl⟩ := get_ref hx
      obtain ⟨y4, y5, y6, rfl, sm, eP, hps', eD, eC⟩ := h
      obtain ⟨s, hs, es⟩ := hps'.get hb0
      have hset := hpset s (List.mem_of_getElem? hs)
      obtain ⟨w, hw, hbf, hth⟩ := way_ex hset h1 (by omega)
      refine ⟨_, rfl, fun m σ H2 => ∃ (j : Nat) (b : Addr), σ = [some (.int n), some (.ref D), some (.ref C), y3, some (.ref b0), some (.ref b), y6] ∧ Same H' H2 ∧ IL H2 b (turnN j s) ∧ j ≤ w ∧ m = w - j, ⟨_, 0, b0, rfl, Same.refl _, es, Nat.zero_le _, rfl⟩, fun m σ H2 hW => ?_⟩
      obtain ⟨j, b, rfl, sm2, eb, hj, rfl⟩ := hW
      have hts := turnN_set (j := j) hset
      have htl := hts.len
      refine ⟨_, rfl, b, _, rfl, eb, hts.1, by rw [hts.2]; omega, fun H3 m sm3 nm em => ?_⟩
      have eb3 := sm3 _ _ eb
      refine ⟨m, _, rfl, .inl (sq em), rfl, _, rfl, ite2 (fun c => ?_) (fun c => ?_)⟩
      · have c' := V.int.inj (of_decide_eq_true c)
        rw [nlen] at c'
        have he : marksBy (turnN j s) = [] := List.eq_nil_of_length_eq_zero (by omega)
        have hjw : j < w := by
          rcases Nat.lt_or_ge j w with l | l
          · exact l
          · obtain rfl : j = w := by omega
            exact absurd he hth
        refine ⟨fun σ' H4 => ∃ (j' : Nat) (b : Addr), j' = j + 1 ∧ σ' = [some (.int n), some (.ref D), some (.ref C), y3, some (.ref b0), some (.ref b), y6] ∧ Same H' H4 ∧ IL H4 b (turnN j' s), fun σ' H4 h => ?_, ?_⟩
        · obtain ⟨j', b, rfl, e1, e2, e3⟩ := h
          exact ⟨w - (j + 1), by omega, j + 1, b, e1, e2, e3, by omega, rfl⟩
        · exact ⟨_, rfl, b, _, rfl, eb3, by omega, fun H4 b' sm4 nb' eb' => ⟨j + 1, b', rfl, rfl, (sm2.trans sm3).trans sm4, by rw [turnN_succ]; exact eb'⟩⟩
      · have hjw : j = w := by
          rcases Nat.lt_or_ge j w with l | l
          · refine absurd ?_ c
            rw [hbf j l]
            exact decide_eq_true rfl
          · omega
        subst hjw
        have smA := sm2.trans sm3
        have eD3 := smA _ _ eD
        have eC3 := smA _ _ eC
        have eP3 := smA _ _ eP
        have hps3 := hps'.same smA
        obtain ⟨k, hk1, hk2⟩ := hra _ hts hth
        have hfin : atN rg (fin s) rg.length = some k := by
          have := fin_way (w := j) (x := s) (by omega) hbf hth 0 (Nat.zero_le _)
          rw [show turnN 0 s = s from rfl] at this
          rw [this]
          exact hk1
        refine ⟨_, rfl, _, rfl, b, _, rfl, .inl ⟨sq eb3, fun l nl => ?_⟩⟩
        have sl := same_new nl (.tup ((turnN j s).map V.int))
        have el : (upd H3 l (.tup ((turnN j s).map V.int))) l = some (.tup ((kT (turnN j s)).map kV)) := by
          rw [kT_map]
          exact upd_same
        have sm4 := (sm.trans smA).trans sl
        have eD4 := sl _ _ eD3
        have eC4 := sl _ _ eC3
        have eP4 := sl _ _ eP3
        have hps4 := hps3.same sl
        clear smA eD3 eC3 eP3 hps3 sl nl sm3 sm2 eb3 eb em nm
        generalize upd H3 l (.tup ((turnN j s).map V.int)) = H4 at *
        have hg : DGet H4 D (.ref l) (some (.int k)) := by
          have := DGet.t eD4 el
          rw [hk, hk1] at this
          exact this
        refine ⟨D, .int k, rfl, hg, ?_⟩
        have hcl : k < (cntsL rg (PP.take i)).length := by rw [cntsL_len]; exact hk2
        have gz : (cntsL rg (PP.take i))[k]? = some ((cntsL rg (PP.take i))[k]'hcl) := List.getElem?_eq_getElem hcl
        have hsn := cntsL_snoc (l := PP.take i) hfin gz
        rw [← take_snoc hs] at hsn
        refine ⟨_, rfl, _, rfl, C, _, _, .int _, rfl, rfl, sq eC4, atI_nat (int_get gz), _, _, rfl, rfl, _, rfl, _, rfl, C, _, k, k, rfl, rfl, eC4, by rw [nlen]; exact ixN_of hcl, ?_⟩
        refine ⟨_, _, _, rfl, same_mut sm4 nC0 _, by rw [upd_ne nPC]; exact eP4, hps4.upd psC, by rw [upd_ne nDC]; exact eD4, ?_⟩
        show upd _ _ _ _ = _
        rw [upd_same, hsn, ← set_map]
    · intro σ H' h
      obtain ⟨y4, y5, y6, rfl, sm, eP, hps', eD, eC⟩ := h
      rw [rlen, hpl, List.take_length] at eC
      exact ⟨_, rfl, q H' C sm nC0 eC⟩

end

section
variable {P : Program} {w : World} {K : PySem.W.Frag} {mg : Str → Option Value} {base : Heap}
theorem sc_after : FnScope ["piles", "turns", "here", "seen", "row", "first"] ["piles", "turns"] (defScope s_after) := ⟨rfl, rfl, rfl, by decide +kernel, rfl, by decide +kernel, by decide +kernel⟩
def sp_after (K : PySem.W.Frag) : Sp := fun vs H Q E => ∃ (a : Addr) (ns : List Int) (n : Nat) (z : Int), vs = [.ref a, .int z] ∧ IL H a ns ∧ IsSet n ns ∧ 1 ≤ n ∧ n ≤ 100 ∧ (0 ≤ z ∧ z ≤ 10 ^ 29 → NL Q H (turnN z.toNat ns)) ∧ (¬ (0 ≤ z ∧ z ≤ 10 ^ 29) → E (.ref (He.ga K "NoNumber")) none H)
theorem ok_after (T : Txt K mg) : Cal P w K mg base (L2N.CX P w) 3 "after" ["piles", "turns"] (sp_after K) := by
  have C_must_be := ok_must_be (P := P) (w := w) (base := base) T
  have C_turned_by := ok_turned_by (P := P) (w := w) (base := base) T
  refine cal_mkX T.d_after sc_after ?_ (fun _ _ _ _ _ _ us hl => match us, hl with | [_, _], _ => rfl) (fun f cdv A outer s H vs Q E hr h tk => ?_)
  · intro vs H Q E h
    obtain ⟨a, ns, n, z, rfl, _⟩ := h
    rfl
  obtain ⟨a, ns, n, z, rfl, hS, hset, h1, h2, q, e⟩ := h
  have hnl := hset.len
  have hu := hu1 hr
  obtain ⟨i, p, hip, hm⟩ := meet_ex hset h1 h2
  have hp1 := hm.pos
  refine ⟨_, (pss_cons (ps_expr (pe_callX C_must_be tk (hr.mono (by decide)) (pa_cons (pv 0) pa_nil)))
      (pss_cons (ps_if (PW.pt (pw_or (pt_cmpR op_lt (pv 1) pe_int (nomark _)) (pw_or1 (pt_cmpR op_gt (pv 1) (pe_globX T.c_MOST_TURNS) (nomark _)))))
      (pss_one (L2N.ps_raise rfl tk (pmk_x (T.xc "NoNumber" (by decide)) (by rfl)))) pss_nil)
      (pss_cons (ps_set (i := 2) sc_after.nd rfl (Or.inl rfl) (pe_callTy (T := "list") call_list_of (by rfl) T.m_list (by decide +kernel) (pa_cons (pv 0) pa_nil)))
      (pss_cons (ps_set (i := 3) sc_after.nd rfl (Or.inl rfl) pe_dnewT)
      (pss_cons (ps_set (i := 4) sc_after.nd rfl (Or.inl rfl) (pe_lst pa_nil))
      (pss_cons (ps_while (passes_of rfl) (pt_cmp (pc_dnotin hu (pe_callTy (T := "tuple") call_tuple_of (by rfl) T.m_tuple (by decide +kernel) (pa_cons (pv 2) pa_nil)) (pv 3)))
      (pss_cons (ps_dput hu (pv 3) (pe_callTy (T := "tuple") call_tuple_of (by rfl) T.m_tuple (by decide +kernel) (pa_cons (pv 2) pa_nil)) (pe_callB call_len_seq (by rfl) T.m_len PySem.boot_len (pa_cons (pv 4) pa_nil)) rfl)
      (pss_cons (ps_expr (pe_bm PySem.F.plainAttrs_list PySem.F.slot_list_append PySem.F.type_list_append mt_append (pv 4) (pa_cons (pv 2) pa_nil)))
      (pss_one (ps_set (i := 2) sc_after.nd rfl (Or.inl rfl) (pe_callF C_turned_by (hr.mono (by decide)) (pa_cons (pv 2) pa_nil)))))))
      (pss_cons (ps_if (pt_cmpR op_lt (pv 1) (pe_callB call_len_seq (by rfl) T.m_len PySem.boot_len (pa_cons (pv 4) pa_nil)) (nomark _))
      (pss_one (ps_ret (pe_callTy (T := "list") call_list_of (by rfl) T.m_list (by decide +kernel) (pa_cons (pe_ix ix_list (pv 4) (pv 1) (fun _ _ => rfl)) pa_nil)))) pss_nil)
      (pss_cons (ps_set (i := 5) sc_after.nd rfl (Or.inl rfl) (pe_dget hu (pv 3) (pe_callTy (T := "tuple") call_tuple_of (by rfl) T.m_tuple (by decide +kernel) (pa_cons (pv 2) pa_nil)) (fun _ _ => rfl)))
      (pss_one (ps_ret (pe_callTy (T := "list") call_list_of (by rfl) T.m_list (by decide +kernel) (pa_cons (pe_ix ix_list (pv 4) (pe_op op_add (pv 5) (pe_op op_mod (pe_op op_sub (pv 1) (pv 5)) (pe_op op_sub (pe_callB call_len_seq (by rfl) T.m_len PySem.boot_len (pa_cons (pv 4) pa_nil)) (pv 5)))) (fun _ _ => rfl)) pa_nil)))))))))))), ?_⟩
  refine ⟨_, rfl, a, ns, rfl, hS, by omega, fun _ => ?_, fun no => absurd ⟨hset.1, by rw [hset.2]; omega⟩ no⟩
  refine ⟨_, rfl, _, _, rfl, rfl, _, rfl, ite2 (fun c => ?_) (fun c => ⟨_, rfl, _, _, rfl, rfl, _, rfl, ite2 (fun d => ?_) (fun d => ?_)⟩)⟩
  · have c' : z < 0 := of_decide_eq_true c
    exact e (by omega)
  · have d' : 100000000000000000000000000000 < z := of_decide_eq_true d
    exact e (by omega)
  have c' : ¬ z < 0 := fun h => c (decide_eq_true h)
  have d' : ¬ 100000000000000000000000000000 < z := fun h => d (decide_eq_true h)
  obtain ⟨t, rfl⟩ : ∃ t : Nat, z = t := ⟨z.toNat, by omega⟩
  replace q := q (by omega)
  rw [Int.toNat_natCast] at q
  clear e c d
  -- here, seen, row
  refine ⟨_, rfl, a, _, rfl, .inl (sq hS), fun p0 n0 => fun d nd => ⟨Nat.zero_le _, fun r nr => ?_⟩⟩
  have s0 := same_new n0 (.lst (ns.map V.int))
  have e0 : IL (upd H p0 (.lst (ns.map V.int))) p0 ns := upd_same
  have nd0 : H d = none := s0.free nd
  generalize upd H p0 (.lst (ns.map V.int)) = H0 at *
  have s1 := s0.trans (same_new nd (.dT []))
  have e1 := same_new nd (.dT []) _ _ e0
  have ed1 : (upd H0 d (.dT [])) d = some (.dT []) := upd_same
  have nr0 : H r = none := s1.free nr
  have ndr : d ≠ r := ne_of_none ed1 nr
  generalize upd H0 d (.dT []) = H1 at *
  have s2 := s1.trans (same_new nr (.lst []))
  have e2 := same_new nr (.lst []) _ _ e1
  have ed2 := same_new nr (.lst []) _ _ ed1
  have er2 : (upd H1 r (.lst [])) r = some (.lst []) := upd_same
  have n0r : p0 ≠ r := ne_of_none e1 nr
  generalize upd H1 r (.lst []) = H2 at *
  refine ⟨fun m σ H' => ∃ (j : Nat) (as : List Addr) (b : Addr), σ = [some (.ref a), some (.int t), some (.ref b), some (.ref d), some (.ref r), none] ∧ Same H H' ∧ H' d = some (.dT (seenL j ns)) ∧ LL H' r as (ringL j ns) ∧ IL H' b (turnN j ns) ∧ b ≠ r ∧ (∀ c ∈ as, c ≠ r) ∧ j ≤ i + p ∧ m = i + p - j,
    ⟨_, 0, [], p0, rfl, s2, ed2, ⟨er2, trivial⟩, e2, n0r, fun c hc => (by cases hc), Nat.zero_le _, rfl⟩, fun m σ H' hW => ?_⟩
  obtain ⟨j, as, b, rfl, sm, ed, ⟨er, hLL⟩, eb, nbr, has, hj, rfl⟩ := hW
  have hts := turnN_set (j := j) hset
  have htl := hts.len
  have hal := hLL.len
  rw [ringL_len] at hal
  refine ⟨_, rfl, b, _, rfl, .inl ⟨sq eb, fun l nl => ⟨_, rfl, ?_⟩⟩⟩
  have sl := same_new nl (.tup ((turnN j ns).map V.int))
  have el : (upd H' l (.tup ((turnN j ns).map V.int))) l = some (.tup ((kT (turnN j ns)).map kV)) := by
    rw [kT_map]
    exact upd_same
  have ed3 := sl _ _ ed
  have er3 := sl _ _ er
  have eb3 := sl _ _ eb
  have hLL3 := hLL.same sl
  have sm3 := sm.trans sl
  clear ed er eb hLL sm sl
  generalize upd H' l (.tup ((turnN j ns).map V.int)) = H3 at *
  refine ⟨d, _, rfl, DGet.t ed3 el, _, rfl, ite2 (fun c => ?_) (fun c => ?_)⟩
  · have hji : j < i + p := by
      rcases Nat.lt_or_ge j (i + p) with l | l
      · exact l
      · obtain rfl : j = i + p := by omega
        rw [seenL_yes (i := i) (by omega) hm.back.symm hm.inj] at c
        cases c
    have hno : valV (seenL j ns) (kT (turnN j ns)) = none := seenL_no fun i' hi' e => hm.inj i' j hi' hji e
    refine ⟨fun σ' H4 => ∃ (j' : Nat) (as : List Addr) (b : Addr), j' = j + 1 ∧ σ' = [some (.ref a), some (.int t), some (.ref b), some (.ref d), some (.ref r), none] ∧ Same H H4 ∧ H4 d = some (.dT (seenL j' ns)) ∧ LL H4 r as (ringL j' ns) ∧ IL H4 b (turnN j' ns) ∧ b ≠ r ∧ (∀ c ∈ as, c ≠ r), fun σ' H4 h => ?_, ?_⟩
    · obtain ⟨j', as, b, rfl, g1, g2, g3, g4, g5, g6, g7⟩ := h
      exact ⟨i + p - (j + 1), by omega, j + 1, as, b, g1, g2, g3, g4, g5, g6, g7, by omega, rfl⟩
    · refine ⟨_, rfl, r, _, rfl, .inl (sq er3), _, rfl, _, rfl, b, _, rfl, .inl ⟨sq eb3, fun l2 nl2 => ?_⟩⟩
      have sl := same_new nl2 (.tup ((turnN j ns).map V.int))
      have el2 : (upd H3 l2 (.tup ((turnN j ns).map V.int))) l2 = some (.tup ((kT (turnN j ns)).map kV)) := by
        rw [kT_map]
        exact upd_same
      have ed4 := sl _ _ ed3
      have er4 := sl _ _ er3
      have eb4 := sl _ _ eb3
      have hLL4 := hLL3.same sl
      have sm4 := sm3.trans sl
      clear ed3 er3 eb3 hLL3 sm3 sl el
      generalize upd H3 l2 (.tup ((turnN j ns).map V.int)) = H4 at *
      refine ⟨d, _, rfl, DPut.t ed4 el2 (by rw [seenL_len]; exact smallL (by omega)), ?_⟩
      rw [putK_new _ hno, rlen, hal, ← seenL_succ]
      have nbd : b ≠ d := ne_of eb4 ed4 (fun z => by cases z)
      have hnd : ∀ c ∈ as, c ≠ d := fun c hc => by
        obtain ⟨x, _, ex⟩ := hLL4.in_ hc
        exact ne_of ex ed4 (fun z => by cases z)
      have sm5 : Same H (upd H4 d (.dT (seenL (j + 1) ns))) := same_mut sm4 nd0 _
      have ed5 : (upd H4 d (.dT (seenL (j + 1) ns))) d = some (.dT (seenL (j + 1) ns)) := upd_same
      have er5 : (upd H4 d (.dT (seenL (j + 1) ns))) r = some (.lst (as.map V.ref)) := by rw [upd_ne ndr.symm]; exact er4
      have eb5 : IL (upd H4 d (.dT (seenL (j + 1) ns))) b (turnN j ns) := by show upd _ _ _ _ = _; rw [upd_ne nbd]; exact eb4
      have hLL5 : LLs (upd H4 d (.dT (seenL (j + 1) ns))) as (ringL j ns) := hLL4.upd hnd
      generalize upd H4 d (.dT (seenL (j + 1) ns)) = H5 at *
      refine ⟨_, rfl, .inl ⟨rfl, _, sq er5⟩, _, rfl, r, _, _, rfl, rfl, er5, by rw [rlen]; exact smallL (by omega), ?_⟩
      have sm6 : Same H (upd H5 r (.lst (as.map V.ref ++ [V.ref b]))) := same_mut sm5 nr0 _
      have ed6 : (upd H5 r (.lst (as.map V.ref ++ [V.ref b]))) d = some (.dT (seenL (j + 1) ns)) := by rw [upd_ne ndr]; exact ed5
      have eb6 : IL (upd H5 r (.lst (as.map V.ref ++ [V.ref b]))) b (turnN j ns) := by show upd _ _ _ _ = _; rw [upd_ne nbr]; exact eb5
      have er6 : LL (upd H5 r (.lst (as.map V.ref ++ [V.ref b]))) r (as ++ [b]) (ringL (j + 1) ns) := ⟨by rw [upd_same, List.map_append] <;> rfl, by rw [ringL_succ]; exact (hLL5.upd has).app ⟨eb6, trivial⟩⟩
      generalize upd H5 r (.lst (as.map V.ref ++ [V.ref b])) = H6 at *
      refine ⟨_, rfl, b, _, rfl, eb6, by omega, fun H7 b' sm7 nb' eb' => ?_⟩
      refine ⟨j + 1, as ++ [b], b', rfl, rfl, sm6.trans sm7, sm7 _ _ ed6, ⟨sm7 _ _ er6.1, er6.2.same sm7⟩, by rw [turnN_succ]; exact eb', (ne_of_none er6.1 nb').symm, fun c hc => ?_⟩
      rcases List.mem_append.mp hc with hc | hc
      · exact has c hc
      · rw [List.mem_singleton.mp hc]
        exact nbr
  · have hji : j = i + p := by
      rcases Nat.lt_or_ge j (i + p) with l | l
      · refine absurd ?_ c
        rw [seenL_no fun i' hi' e => hm.inj i' j hi' l e]
        rfl
      · omega
    subst hji
    refine ⟨_, rfl, _, rfl, r, _, rfl, .inl (sq er3), _, _, rfl, rfl, _, rfl, ite2 (fun c => ?_) (fun c => ?_)⟩
    · have c' : (t : Int) < ((as.map V.ref).length : Int) := of_decide_eq_true c
      rw [rlen] at c'
      obtain ⟨x, hx, ex⟩ := hLL3.at (ringL_get (j := t) (by omega))
      exact ⟨_, rfl, _, rfl, r, _, _, .ref x, rfl, rfl, sq er3, atI_nat (ref_get hx), x, _, rfl, .inl (sq ex), fun z nz => q _ z (sm3.trans (same_new nz _)) (sm3.free nz) upd_same⟩
    · have c' : ¬ (t : Int) < ((as.map V.ref).length : Int) := fun h => c (decide_eq_true h)
      rw [rlen] at c'
      refine ⟨_, rfl, _, rfl, b, _, rfl, .inl ⟨sq eb3, fun l2 nl2 => ?_⟩⟩
      have sl := same_new nl2 (.tup ((turnN (i + p) ns).map V.int))
      have el2 : (upd H3 l2 (.tup ((turnN (i + p) ns).map V.int))) l2 = some (.tup ((kT (turnN (i + p) ns)).map kV)) := by
        rw [kT_map]
        exact upd_same
      have ed4 := sl _ _ ed3
      have er4 := sl _ _ er3
      have hLL4 := hLL3.same sl
      have sm4 := sm3.trans sl
      clear ed3 er3 eb3 hLL3 sm3 sl el
      generalize upd H3 l2 (.tup ((turnN (i + p) ns).map V.int)) = H4 at *
      have hg : DGet H4 d (.ref l2) (some (.int i)) := by
        have := DGet.t ed4 el2
        rw [seenL_yes (i := i) (by omega) hm.back.symm hm.inj] at this
        exact this
      refine ⟨d, .int i, rfl, hg, ?_⟩
      have hmod := Nat.mod_lt (t - i) (show 0 < p by omega)
      obtain ⟨x, hx, ex⟩ := hLL4.at (ringL_get (j := i + (t - i) % p) (x := ns) (d := i + p) (by omega))
      rw [← hm.at (by omega)] at ex
      have e : (i : Int) + ((t : Int) - i) % (((as.map V.ref).length : Int) - i) = ((i + (t - i) % p : Nat) : Int) := by
        rw [rlen, hal, show ((i + p : Nat) : Int) - i = (p : Int) by omega, show (t : Int) - i = ((t - i : Nat) : Int) by omega, Int.natCast_add, Int.natCast_emod]
      refine ⟨_, rfl, _, rfl, _, rfl, _, rfl, _, _, rfl, rfl, _, rfl, r, _, rfl, .inl (sq er4), _, rfl, _, _, rfl, rfl, _, _, rfl, rfl, by rw [rlen, hal]; omega, _, _, rfl, rfl, r, _, _, .ref x, rfl, rfl, sq er4, by rw [e]; exact atI_nat (ref_get hx), x, _, rfl, .inl (sq ex), fun z nz => q _ z (sm4.trans (same_new nz _)) (sm4.free nz) upd_same⟩

end

section
variable {P : Program} {w : World} {K : PySem.W.Frag} {mg : Str → Option Value} {base : Heap}
theorem sc_law_which : FnScope ["e", "told"] ["e"] (defScope s_law_which) := ⟨rfl, rfl, rfl, by decide +kernel, rfl, by decide +kernel, by decide +kernel⟩
def sp_law_which (K : PySem.W.Frag) (cls : Value) (d : Option Addr) (a : Addr) : Sp := fun vs H Q _ => ∃ (j : Nat) (x : Str), cls = .ref (He.ga K x) ∧ d = none ∧ eNames[j]? = some x ∧ vs = [.ref a] ∧ ∀ H', Same H H' → Q (.int (j : Int)) H'
theorem names5 : ∀ j : Fin 5, ∀ i : Fin 5, decide (eNames.getD j.1 "" = eNames.getD i.1 "") = decide (j.1 = i.1) := by decide +kernel
theorem names_at {j : Nat} {x : Str} (h : eNames[j]? = some x) : j < 5 ∧ ∀ (i : Nat) (y : Str), eNames[i]? = some y → decide (x = y) = decide (j = i) := by
  have hj : j < 5 := (List.getElem?_eq_some_iff.mp h).1
  refine ⟨hj, fun i y hy => ?_⟩
  have hi : i < 5 := (List.getElem?_eq_some_iff.mp hy).1
  have := names5 ⟨j, hj⟩ ⟨i, hi⟩
  rw [List.getD_eq_getElem?_getD, List.getD_eq_getElem?_getD, h, hy] at this
  exact this
theorem ok_law_which (T : Txt K mg) {a : Addr} {oe : Obj} {cls : Value} {d : Option Addr} (hz : L2N.Zn cls d oe) (hf : ∃ vs, oe.data = .fields vs) : CalP P w K mg base CX0 1 "_law_which" ["e"] (sp_law_which K cls d a) (a, oe) := by
  refine cal_mkP T.d_law_which sc_law_which ?_ (fun _ _ _ _ _ _ us hl => match us, hl with | [_], _ => rfl) (fun f cdv A outer s H vs Q E hr h => ?_)
  · intro vs H Q E h
    obtain ⟨j, x, _, _, _, rfl, _⟩ := h
    rfl
  obtain ⟨j, x, rfl, rfl, hj, rfl, q⟩ := h
  have hx : x ∈ eNames := List.mem_of_getElem? hj
  have X := T.xc x hx
  have is := X.is
  refine ⟨_, (pss_cons (ps_set (i := 1) sc_law_which.nd rfl (Or.inl rfl) (pe_lst (pa_cons (pe_callB (call_isP (T.xc _ hx).ec hz.zc hf (List.mem_cons_self ..)) (by rfl) T.m_isinstance (by decide +kernel) (pa_cons (pv 0) (pa_cons (pe_cls (T.xc "NoPiles" (by decide))) pa_nil))) (pa_cons (pe_callB (call_isP (T.xc _ hx).ec hz.zc hf (List.mem_cons_self ..)) (by rfl) T.m_isinstance (by decide +kernel) (pa_cons (pv 0) (pa_cons (pe_cls (T.xc "NotRound" (by decide))) pa_nil))) (pa_cons (pe_callB (call_isP (T.xc _ hx).ec hz.zc hf (List.mem_cons_self ..)) (by rfl) T.m_isinstance (by decide +kernel) (pa_cons (pv 0) (pa_cons (pe_cls (T.xc "NoMarks" (by decide))) pa_nil))) pa_nil)))))
      (pss_cons (ps_set (i := 1) sc_law_which.nd rfl (Or.inl rfl) (pe_op op_cat (pv 1) (pe_lst (pa_cons (pe_callB (call_isP (T.xc _ hx).ec hz.zc hf (List.mem_cons_self ..)) (by rfl) T.m_isinstance (by decide +kernel) (pa_cons (pv 0) (pa_cons (pe_cls (T.xc "NoNumber" (by decide))) pa_nil))) (pa_cons (pe_callB (call_isP (T.xc _ hx).ec hz.zc hf (List.mem_cons_self ..)) (by rfl) T.m_isinstance (by decide +kernel) (pa_cons (pv 0) (pa_cons (pe_cls (T.xc "NoNote" (by decide))) pa_nil))) pa_nil)))))
      (pss_cons (ps_if (PW.pt (pw_or (pt_not (pt_val (pe_callB (call_isP (T.xc _ hx).ec hz.zc hf (List.mem_cons_self ..)) (by rfl) T.m_isinstance (by decide +kernel) (pa_cons (pv 0) (pa_cons (pe_bltn (v := .ty "ValueError") (by rfl) T.m_ValueError (by decide +kernel) rfl) pa_nil))))) (pw_or1 (pt_cmpR op_ne (pe_bm PySem.F.plainAttrs_list PySem.F.slot_list_count PySem.F.type_list_count mt_fcount (pv 1) (pa_cons pe_bl pa_nil)) pe_int (nomark _)))))
      (pss_one (ps_ret pe_int)) pss_nil)
      (pss_one (ps_ret (pe_bm PySem.F.plainAttrs_list PySem.F.slot_list_index PySem.F.type_list_index mt_index (pv 1) (pa_cons pe_bl pa_nil))))))), ?_⟩
  have k : ∀ y ∈ eNames, PySem.W.kitOne K (.ref (He.ga K x)) (.ref (He.ga K y)) = some (decide (x = y)) := is
  have R : ∀ (y : Str) (u : Value), RelV (V.ref (He.ga K y)) u → u = .ref (He.ga K y) := fun y u r => r
  have l3 : ∀ (n : Nat), n ≤ 5 → n ≤ sizeLine := fun n h => Nat.le_trans h (by decide)
  refine ⟨_, rfl, _, _, _, rfl, R _, k _ (by decide), _, rfl, _, _, _, rfl, R _, k _ (by decide), _, rfl, _, _, _, rfl, R _, k _ (by decide), l3 3 (by decide), fun p np => ?_⟩
  refine ⟨_, rfl, _, rfl, _, _, _, rfl, R _, k _ (by decide), _, rfl, _, _, _, rfl, R _, k _ (by decide), l3 2 (by decide), fun p2 np2 => ?_⟩
  have s1 := same_new np (.lst [V.bl (decide (x = "NoPiles")), V.bl (decide (x = "NotRound")), V.bl (decide (x = "NoMarks"))])
  have s2 := same_new np2 (.lst [V.bl (decide (x = "NoNumber")), V.bl (decide (x = "NoNote"))])
  refine ⟨p, p2, _, _, rfl, rfl, s2 _ _ upd_same, upd_same, l3 5 (by decide), fun p3 np3 => ?_⟩
  have s3 := same_new np3 (.lst ([V.bl (decide (x = "NoPiles")), V.bl (decide (x = "NotRound")), V.bl (decide (x = "NoMarks"))] ++ [V.bl (decide (x = "NoNumber")), V.bl (decide (x = "NoNote"))]))
  refine ⟨_, rfl, .ty "ValueError", .type "ValueError", true, rfl, fun u r => r, X.ve, ?_⟩
  obtain ⟨hj5, hn⟩ := names_at hj
  rw [hn 0 "NoPiles" rfl, hn 1 "NotRound" rfl, hn 2 "NoMarks" rfl, hn 3 "NoNumber" rfl, hn 4 "NoNote" rfl] at *
  have hq := fun o3 => q _ ((s1.trans s2).trans (same_new np3 o3))
  have h5 : j = 0 ∨ j = 1 ∨ j = 2 ∨ j = 3 ∨ j = 4 := by omega
  refine ⟨true, rfl, _, rfl, .inl ⟨rfl, _, sq upd_same⟩, p3, _, _, rfl, rfl, sq upd_same, rfl, rfl, ?_⟩
  rcases h5 with rfl | rfl | rfl | rfl | rfl
  all_goals
    refine ⟨rfl, _, rfl, ite2 (fun c => absurd c (by decide)) (fun _ => ?_)⟩
    refine ⟨_, rfl, .inl ⟨rfl, _, sq upd_same⟩, p3, _, _, _, .bl true, rfl, rfl, sq upd_same, rfl, rfl, ?_, rfl, ?_, hq _⟩
  all_goals
    first
      | rfl
      | (intro m z' hm hz
         have h4 : m = 0 ∨ m = 1 ∨ m = 2 ∨ m = 3 := by omega
         rcases h4 with rfl | rfl | rfl | rfl <;> first | omega | (cases hz; rfl))

end

section
variable {P : Program} {w : World} {K : PySem.W.Frag} {mg : Str → Option Value} {base : Heap}
theorem sc_law_cell : FnScope ["script", "k", "base"] ["script", "k"] (defScope s_law_cell) := ⟨rfl, rfl, rfl, by decide +kernel, rfl, by decide +kernel, by decide +kernel⟩
/-- any number may stand in a cell -/
def sp_law_cell (K : PySem.W.Frag) : Sp := fun vs H Q _ => ∃ (a : Addr) (ns : List Int) (k : Int), vs = [.ref a, .int k] ∧ SL K H a ns ∧ 0 ≤ k ∧ ∀ z, Q (.int z) H
theorem ok_law_cell (T : Txt K mg) : Cal P w K mg base CX0 1 "_law_cell" ["script", "k"] (sp_law_cell K) := by
  refine cal_mk T.d_law_cell sc_law_cell ?_ (fun _ _ _ _ _ _ us hl => match us, hl with | [_, _], _ => rfl) (fun f cdv A outer s H vs Q E hr h => ?_)
  · intro vs H Q E h
    obtain ⟨a, ns, k, rfl, _⟩ := h
    rfl
  obtain ⟨a, ns, k, rfl, hS, h0, q⟩ := h
  refine ⟨_, (pss_cons (ps_if (pt_cmpR op_lt (pv 1) (pe_callB call_len_seq (by rfl) T.m_len PySem.boot_len (pa_cons (pv 0) pa_nil)) (nomark _))
      (pss_one (ps_ret (pe_ix ix_list (pv 0) (pv 1) (fun _ _ => rfl)))) pss_nil)
      (pss_cons (ps_set (i := 2) sc_law_cell.nd rfl (Or.inl rfl) pe_int)
      (pss_cons (ps_if (pt_cmpR op_gt (pe_callB call_len_seq (by rfl) T.m_len PySem.boot_len (pa_cons (pv 0) pa_nil)) pe_int (nomark _))
      (pss_one (ps_set (i := 2) sc_law_cell.nd rfl (Or.inl rfl) (pe_ix ix_list (pv 0) pe_int (fun _ _ => rfl)))) pss_nil)
      (pss_one (ps_ret (pe_op op_mod (pe_op op_add (pe_op op_mul (pe_op op_mod (pv 2) pe_int) pe_int) (pe_op op_mul (pv 1) pe_int)) pe_int)))))), ?_⟩
  refine ⟨_, rfl, _, rfl, a, _, rfl, .inl hS, _, _, rfl, rfl, _, rfl, ite2 (fun c => ?_) (fun c => ?_)⟩
  · have c' : k < ((ns.map V.int).length : Int) := of_decide_eq_true c
    rw [List.length_map] at c'
    obtain ⟨j, rfl⟩ : ∃ j : Nat, k = j := ⟨k.toNat, by omega⟩
    have hj : j < ns.length := by omega
    exact ⟨_, rfl, _, rfl, a, _, _, .int ns[j], rfl, rfl, hS, atI_nat (int_get (List.getElem?_eq_getElem hj)), q _⟩
  · refine ⟨_, rfl, a, _, rfl, .inl hS, _, _, rfl, rfl, _, rfl, ite2 (fun c => ?_) (fun c => ?_)⟩
    · have c' : (0 : Int) < ((ns.map V.int).length : Int) := of_decide_eq_true c
      rw [List.length_map] at c'
      have hj : 0 < ns.length := by omega
      refine ⟨_, rfl, a, _, 0, .int ns[0], rfl, rfl, hS, atI_nat (j := 0) (int_get (List.getElem?_eq_getElem hj)), ?_⟩
      exact ⟨_, rfl, _, _, rfl, rfl, (by show (0 : Int) < 65521; decide), _, _, rfl, rfl, .inr ⟨by decide, by decide⟩, _, rfl, _, _, rfl, rfl, .inr ⟨by decide, by decide⟩, _, _, rfl, rfl, _, _, rfl, rfl, (by show (0 : Int) < 65521; decide), q _⟩
    · exact ⟨_, rfl, _, _, rfl, rfl, (by show (0 : Int) < 65521; decide), _, _, rfl, rfl, .inr ⟨by decide, by decide⟩, _, rfl, _, _, rfl, rfl, .inr ⟨by decide, by decide⟩, _, _, rfl, rfl, _, _, rfl, rfl, (by show (0 : Int) < 65521; decide), q _⟩

end

section
variable {P : Program} {w : World} {K : PySem.W.Frag} {mg : Str → Option Value} {base : Heap}
theorem sc_law_next : FnScope ["step"] ["step"] (defScope s_law_next) := ⟨rfl, rfl, rfl, by decide +kernel, rfl, by decide +kernel, by decide +kernel⟩
def sp_law_next : Sp := fun vs H Q _ => ∃ n : Int, vs = [.int n] ∧ ∀ z, Q (.int z) H
theorem ok_law_next (T : Txt K mg) : Cal P w K mg base CX0 1 "_law_next" ["step"] sp_law_next := by
  refine cal_mk T.d_law_next sc_law_next ?_ (fun _ _ _ _ _ _ us hl => match us, hl with | [_], _ => rfl) (fun f cdv A outer s H vs Q E hr h => ?_)
  · intro vs H Q E h
    obtain ⟨n, rfl, _⟩ := h
    rfl
  obtain ⟨n, rfl, q⟩ := h
  refine ⟨_, (pss_one (ps_ret (pe_op op_mod (pe_op op_add (pe_op op_mul (pv 0) pe_int) pe_int) pe_int))), ?_⟩
  exact ⟨_, rfl, _, _, rfl, rfl, .inr ⟨by decide, by decide⟩, _, _, rfl, rfl, _, _, rfl, rfl, (by show (0 : Int) < 2147483647; decide), q _⟩

end

section
variable {P : Program} {w : World} {K : PySem.W.Frag} {mg : Str → Option Value} {base : Heap}
theorem sc_law_fallen : FnScope ["piles"] ["piles"] (defScope s_law_fallen) := ⟨rfl, rfl, rfl, by decide +kernel, rfl, by decide +kernel, by decide +kernel⟩
def sp_law_fallen : Sp := fun vs H Q _ => ∃ (a : Addr) (ns : List Int), vs = [.ref a] ∧ IL H a ns ∧ NL Q H (fall ns)
theorem ok_law_fallen (T : Txt K mg) : Cal P w K mg base CX0 1 "_law_fallen" ["piles"] sp_law_fallen := by
  refine cal_mk T.d_law_fallen sc_law_fallen ?_ (fun _ _ _ _ _ _ us hl => match us, hl with | [_], _ => rfl) (fun f cdv A outer s H vs Q E hr h => ?_)
  · intro vs H Q E h
    obtain ⟨a, ns, rfl, _⟩ := h
    rfl
  obtain ⟨a, ns, rfl, hS, q⟩ := h
  refine ⟨_, (pss_one (ps_ret (pe_listRev rfl (by rfl) T.m_list (by rfl) T.m_reversed (pe_callB cr_sortedI (by rfl) T.m_sorted (by decide +kernel) (pa_cons (pv 0) pa_nil))))), ?_⟩
  refine ⟨_, rfl, a, ns, rfl, sq hS, fun ns' p hp hs np => ?_⟩
  refine ⟨p, _, rfl, .inl (.inl upd_same), fun r nr => ?_⟩
  have s1 := same_new np (.lst (ns'.map V.int))
  refine q _ r (s1.trans (same_new nr _)) (s1.free nr) ?_
  show upd _ _ _ _ = _
  rw [upd_same, ← List.map_reverse]
  have e : ns'.reverse = fall ns := fall_eq ((List.reverse_perm ns').trans hp) (List.pairwise_reverse.mpr (hs.imp fun h => h))
  rw [e]

end

section
variable {P : Program} {w : World} {K : PySem.W.Frag} {mg : Str → Option Value} {base : Heap}
theorem sc_law_turned : FnScope ["piles", "pile"] ["piles"] (defScope s_law_turned) := ⟨rfl, rfl, rfl, by decide +kernel, rfl, by decide +kernel, by decide +kernel⟩
def sp_law_turned : Sp := fun vs H Q _ => ∃ (a : Addr) (ns : List Int), vs = [.ref a] ∧ IL H a ns ∧ ns.length ≤ 1000 ∧ NL Q H (fall (down1 ns ++ [(ns.length : Int)]))
theorem ok_law_turned (T : Txt K mg) : Cal P w K mg base CX0 2 "_law_turned" ["piles"] sp_law_turned := by
  have C_law_fallen := ok_law_fallen (P := P) (w := w) (base := base) T
  refine cal_mk T.d_law_turned sc_law_turned ?_ (fun _ _ _ _ _ _ us hl => match us, hl with | [_], _ => rfl) (fun f cdv A outer s H vs Q E hr h => ?_)
  · intro vs H Q E h
    obtain ⟨a, ns, rfl, _⟩ := h
    rfl
  obtain ⟨a, ns, rfl, hS, hl, q⟩ := h
  refine ⟨_, (pss_one (ps_ret (pe_callF C_law_fallen (hr.mono (by decide)) (pa_cons (pe_op op_cat (pe_lc (own := [("pile", 1)]) (g := gName 1) rfl sc_law_turned.nd (pi_list (pv 0)) (blkOk_by (own := [("pile", 1)]) (N := ["piles", "pile"]) (sc := defScope s_law_turned) (by decide +kernel)) (fun _ _ _ _ _ => pg_name (i := 1) sc_law_turned.nd rfl (Or.inl rfl)) (fun _ _ _ _ _ => (pts_one (pt_cmpR op_gt (pv 1) pe_int (nomark _)))) (fun _ _ _ _ _ => (pe_op op_sub (pv 1) pe_int))) (pe_lst (pa_cons (pe_callB call_len_seq (by rfl) T.m_len PySem.boot_len (pa_cons (pv 0) pa_nil)) pa_nil))) pa_nil)))), ?_⟩
  -- the comprehension
  refine ⟨_, rfl, a, rfl, ⟨_, sq hS⟩, fun D nD => lc_list (K := K) (a := a) (xs := ns.map V.int) (fun i H' => Same H H' ∧ H' D = some (.lst ((down1 (ns.take i)).map V.int))) ?_ ?_ ?_ ?_⟩
  · exact ⟨same_new nD _, upd_same⟩
  · exact fun i H' _ h => sq (h.1 _ _ hS)
  · intro i x H' hx h
    obtain ⟨z, hz, rfl⟩ := get_int hx
    obtain ⟨sm, eD⟩ := h
    refine ⟨rfl, .int z, rfl, _, _, rfl, rfl, _, rfl, ?_⟩
    have et : ns.take (i + 1) = ns.take i ++ [z] := by
      rw [List.take_add_one, hz] <;> rfl
    refine ite2 (fun c => ?_) (fun c => ?_)
    · have c' : z > 1 := of_decide_eq_true c
      refine ⟨.int z, rfl, _, _, rfl, rfl, _, eD, ?_, ?_, ?_⟩
      · rw [List.length_map]
        have := down1_length (ns.take i)
        rw [List.length_take] at this
        exact smallL (by omega)
      · exact same_mut sm nD _
      · rw [upd_same, et]
        have : down1 (ns.take i ++ [z]) = down1 (ns.take i) ++ [z - 1] := by
          unfold down1
          rw [List.filter_append, List.map_append]
          congr 1
          rw [List.filter_cons, if_pos (decide_eq_true c')] <;> rfl
        rw [this, List.map_append] <;> rfl
    · have c' : ¬ z > 1 := fun h => c (decide_eq_true h)
      refine ⟨sm, ?_⟩
      rw [et]
      have : down1 (ns.take i ++ [z]) = down1 (ns.take i) := by
        unfold down1
        rw [List.filter_append, List.map_append, List.filter_cons, if_neg (by simp only [decide_eq_true_eq]; exact c')]
        simp
      rw [this]
      exact eD
  · intro H1 h
    obtain ⟨sm, eD⟩ := h
    rw [List.length_map, List.take_length] at eD
    refine ⟨_, rfl, a, _, rfl, .inl (sq (sm _ _ hS)), (by show 1 ≤ sizeLine; decide), fun c nc => ?_⟩
    have nDc : D ≠ c := ne_of_none eD nc
    refine ⟨D, c, _, _, rfl, rfl, by rw [upd_ne nDc]; exact eD, upd_same, ?_, fun e ne => ?_⟩
    · rw [List.length_map]
      have := down1_length ns
      exact small (by show (down1 ns).length + 1 ≤ _; omega)
    · have s2 : Same H (upd (upd H1 c (.lst [.int ((ns.map V.int).length : Int)])) e (.lst ((down1 ns).map V.int ++ [.int ((ns.map V.int).length : Int)]))) := (sm.trans (same_new nc _)).trans (same_new ne _)
      refine ⟨e, down1 ns ++ [(ns.length : Int)], rfl, ?_, fun H' p s3 np ep => q H' p (s2.trans s3) (s2.free np) ep⟩
      show _ = _
      rw [upd_same, List.map_append, List.length_map] <;> rfl

end

section
variable {P : Program} {w : World} {K : PySem.W.Frag} {mg : Str → Option Value} {base : Heap}
theorem sc_law_stair : FnScope ["coins", "stair"] ["coins"] (defScope s_law_stair) := ⟨rfl, rfl, rfl, by decide +kernel, rfl, by decide +kernel, by decide +kernel⟩
def sp_law_stair : Sp := fun vs H Q _ => ∃ n : Nat, vs = [.int n] ∧ 1 ≤ n ∧ n ≤ 100000 ∧ Q (.int (stair n)) H
theorem ok_law_stair (T : Txt K mg) : Cal P w K mg base CX0 1 "_law_stair" ["coins"] sp_law_stair := by
  refine cal_mk T.d_law_stair sc_law_stair ?_ (fun _ _ _ _ _ _ us hl => match us, hl with | [_], _ => rfl) (fun f cdv A outer s H vs Q E hr h => ?_)
  · intro vs H Q E h
    obtain ⟨n, rfl, _⟩ := h
    rfl
  obtain ⟨n, rfl, h1, h2, q⟩ := h
  refine ⟨_, (pss_cons (ps_set (i := 1) sc_law_stair.nd rfl (Or.inl rfl) pe_int)
      (pss_cons (ps_while PassesOwn.never (pt_cmpR op_lt (pe_op op_mul (pv 1) (pe_op op_add (pv 1) pe_int)) (pe_op op_mul pe_int (pv 0)) (nomark _))
      (pss_one (ps_set (i := 1) sc_law_stair.nd rfl (Or.inl rfl) (pe_op op_add (pv 1) pe_int))))
      (pss_one (ps_ret (pv 1))))), ?_⟩
  refine ⟨fun m σ H' => ∃ s : Nat, σ = [some (.int n), some (.int s)] ∧ H' = H ∧ m = 2 * n + 2 - s ∧ 1 ≤ s ∧ (s - 1) * s < 2 * n, ⟨_, 1, rfl, rfl, rfl, Nat.le_refl _, by omega⟩, fun m σ H' hW => ?_⟩
  obtain ⟨s, rfl, rfl, rfl, g1, g2⟩ := hW
  have g3 : s ≤ 2 * n + 1 := by
    have := Nat.mul_le_mul_left (s - 1) g1
    omega
  refine ⟨_, rfl, _, rfl, _, _, rfl, rfl, _, _, rfl, rfl, .inl ⟨by omega, by omega⟩, _, rfl, _, _, rfl, rfl, .inl ⟨by decide, by decide⟩, _, _, rfl, rfl, _, rfl, ite2 (fun c => ?_) (fun c => ?_)⟩
  · have c' : (s : Int) * ((s : Int) + 1) < 2 * (n : Int) := of_decide_eq_true c
    have c2 : s * (s + 1) < 2 * n := by exact_mod_cast c'
    refine ⟨fun σ' H2 => ∃ s' : Nat, s' = s + 1 ∧ σ' = [some (.int n), some (.int s')] ∧ H2 = H', fun σ' H2 h => ?_, ?_⟩
    · obtain ⟨s', rfl, e1, e2⟩ := h
      exact ⟨2 * n + 2 - (s + 1), by omega, s + 1, e1, e2, rfl, by omega, by rw [Nat.add_sub_cancel]; exact c2⟩
    · exact ⟨_, rfl, _, _, rfl, rfl, s + 1, rfl, rfl, rfl⟩
  · have c' : ¬ (s : Int) * ((s : Int) + 1) < 2 * (n : Int) := fun h => c (decide_eq_true h)
    have c2 : 2 * n ≤ s * (s + 1) := by
      have : ¬ s * (s + 1) < 2 * n := fun h => c' (by exact_mod_cast h)
      omega
    rw [← stair_uniq h1 g1 g2 c2] at q
    exact ⟨_, rfl, q⟩

end

section
variable {P : Program} {w : World} {K : PySem.W.Frag} {mg : Str → Option Value} {base : Heap}
theorem sc_law_by_marks : FnScope ["marks", "piles", "k", "pile"] ["marks"] (defScope s_law_by_marks) := ⟨rfl, rfl, rfl, by decide +kernel, rfl, by decide +kernel, by decide +kernel⟩
def sp_law_by_marks : Sp := fun vs H Q _ => ∃ (a : Addr) (ms : List Int), vs = [.ref a] ∧ IL H a ms ∧ ms.length ≤ 1000 ∧ NL Q H (ofMarks ms)
theorem ok_law_by_marks (T : Txt K mg) : Cal P w K mg base CX0 1 "_law_by_marks" ["marks"] sp_law_by_marks := by
  refine cal_mk T.d_law_by_marks sc_law_by_marks ?_ (fun _ _ _ _ _ _ us hl => match us, hl with | [_], _ => rfl) (fun f cdv A outer s H vs Q E hr h => ?_)
  · intro vs H Q E h
    obtain ⟨a, ms, rfl, _⟩ := h
    rfl
  obtain ⟨a, ms, rfl, hS, hl, q⟩ := h
  refine ⟨_, (pss_cons (ps_setLc (i := 1) (own := [("k", 2)]) (g := gName 2) rfl sc_law_by_marks.nd rfl rfl (sw_true rfl rfl rfl (by decide +kernel)) (pi_range1 (by rfl) T.m_range (pa_cons (pe_callB call_len_seq (by rfl) T.m_len PySem.boot_len (pa_cons (pv 0) pa_nil)) pa_nil)) (blkOk_by (own := [("k", 2)]) (N := ["marks", "piles", "k", "pile"]) (sc := defScope s_law_by_marks) (by decide +kernel)) (fun _ _ _ _ _ => pg_name (i := 2) sc_law_by_marks.nd rfl (Or.inl rfl)) (fun _ _ _ _ _ => pts_nil) (fun _ _ _ _ _ => (pe_op op_add (pe_op op_sub (pe_op op_sub (pe_callB (call_len_seqK K) (by rfl) T.m_len PySem.boot_len (pa_cons (pv 0) pa_nil)) pe_int) (pv 2)) (pe_ix (ix_listK K) (pv 0) (pv 2) (fun _ _ => rfl)))))
      (pss_one (ps_ret (pe_lc (own := [("pile", 3)]) (g := gName 3) rfl sc_law_by_marks.nd (pi_list (pv 1)) (blkOk_by (own := [("pile", 3)]) (N := ["marks", "piles", "k", "pile"]) (sc := defScope s_law_by_marks) (by decide +kernel)) (fun _ _ _ _ _ => pg_name (i := 3) sc_law_by_marks.nd rfl (Or.inl rfl)) (fun _ _ _ _ _ => (pts_one (pt_cmpR op_gt (pv 3) pe_int (nomark _)))) (fun _ _ _ _ _ => (pv 3)))))), ?_⟩
  refine ⟨_, rfl, a, _, rfl, .inl (sq hS), _, rfl, by rw [nlen]; omega, by rw [nlen]; omega, fun D nD => lc_range (lo := 0) (n := ((ms.map V.int).length : Int).toNat) (fun i H' => Same H H' ∧ IL H' D ((mk ms).take i)) ⟨same_new nD _, upd_same⟩ ?_ ?_⟩
  · intro i H' hi h
    obtain ⟨sm, eD⟩ := h
    rw [nlen] at hi
    have hi : i < ms.length := by omega
    refine ⟨rfl, _, rfl, a, _, rfl, .inl (sq (sm _ _ hS)), _, _, rfl, rfl, _, rfl, _, _, rfl, rfl, _, rfl, _, rfl, a, _, _, .int ms[i], rfl, rfl, sq (sm _ _ hS), at_of (j := i) (by omega) (int_get (List.getElem?_eq_getElem hi)), _, _, rfl, rfl, _, eD, ?_, same_mut sm nD _, ?_⟩
    · rw [nlen, List.length_take, mk_length]
      exact smallL (by omega)
    · have g := mk_get (List.getElem?_eq_getElem hi)
      show upd _ _ _ _ = _
      rw [upd_same, take_snoc g, List.map_append, nlen]
      congr 4
      simp
  · intro H1 h
    obtain ⟨sm, eD⟩ := h
    rw [nlen, Int.toNat_natCast, ← mk_length, List.take_length] at eD
    refine ⟨_, rfl, D, rfl, ⟨_, sq eD⟩, fun G nG => lc_list (K := K) (a := D) (xs := (mk ms).map V.int) (fun i H' => Same H1 H' ∧ IL H' G (((mk ms).take i).filter fun z => decide (z > 0))) ⟨same_new nG _, upd_same⟩ (fun i H' _ h => sq (h.1 _ _ eD)) ?_ ?_⟩
    · intro i x H' hx h
      obtain ⟨z, hz, rfl⟩ := get_int hx
      obtain ⟨sm2, eG⟩ := h
      refine ⟨rfl, _, rfl, _, _, rfl, rfl, _, rfl, ?_⟩
      rw [take_snoc hz, List.filter_append]
      refine ite2 (fun c => ?_) (fun c => ?_)
      · have c' : z > 0 := of_decide_eq_true c
        refine ⟨_, rfl, _, eG, ?_, same_mut sm2 nG _, ?_⟩
        · rw [nlen]
          have := List.length_filter_le (fun z => decide (z > 0)) ((mk ms).take i)
          rw [List.length_take, mk_length] at this
          exact smallL (by omega)
        · show upd _ _ _ _ = _
          rw [upd_same, List.map_append, List.filter_cons, if_pos (decide_eq_true c')] <;> rfl
      · have c' : ¬ z > 0 := fun h => c (decide_eq_true h)
        refine ⟨sm2, ?_⟩
        rw [List.filter_cons, if_neg (by simp only [decide_eq_true_eq]; exact c'), List.filter_nil, List.append_nil]
        exact eG
    · intro H2 h
      obtain ⟨sm2, eG⟩ := h
      rw [nlen, List.take_length] at eG
      exact q H2 G (sm.trans sm2) (sm.free nG) eG

end

section
variable {P : Program} {w : World} {K : PySem.W.Frag} {mg : Str → Option Value} {base : Heap}
theorem sc_law_drawn_marks : FnScope ["script", "k", "coins", "stair", "ones", "step", "marks", "j"] ["script", "k", "coins"] (defScope s_law_drawn_marks) := ⟨rfl, rfl, rfl, by decide +kernel, rfl, by decide +kernel, by decide +kernel⟩
theorem bits_sum_le {ms : List Int} (h : Bits ms) : 0 ≤ ms.sum := by
  induction ms with
  | nil => exact Int.le_refl 0
  | cons x r ih =>
    have := h x (List.mem_cons_self ..)
    have := ih fun z hz => h z (List.mem_cons_of_mem _ hz)
    rw [List.sum_cons]
    omega
theorem ins_facts {l : List Int} {j : Nat} {x : Int} : (∀ z, z ∈ l.take j ++ [x] ++ l.drop j ↔ z = x ∨ z ∈ l) ∧ (l.take j ++ [x] ++ l.drop j).sum = x + l.sum ∧ (l.take j ++ [x] ++ l.drop j).length = l.length + 1 := by
  have p : (l.take j ++ [x] ++ l.drop j).Perm (x :: l) := by
    have h := (List.perm_middle (a := x) (l₁ := l.take j) (l₂ := l.drop j))
    rw [List.take_append_drop] at h
    rw [List.append_assoc]
    exact h
  exact ⟨fun z => by rw [p.mem_iff, List.mem_cons], by rw [perm_sum p, List.sum_cons], p.length_eq⟩
def sp_law_drawn_marks (K : PySem.W.Frag) : Sp := fun vs H Q _ => ∃ (a : Addr) (ns : List Int) (k : Int) (n : Nat), vs = [.ref a, .int k, .int n] ∧ SL K H a ns ∧ 0 ≤ k ∧ 1 ≤ n ∧ n ≤ 100 ∧
  ∀ ms : List Int, Bits ms → ms.length = stair n → ms.sum = (restOf n : Int) → NL Q H ms
theorem ok_law_drawn_marks (T : Txt K mg) : Cal P w K mg base CX0 2 "_law_drawn_marks" ["script", "k", "coins"] (sp_law_drawn_marks K) := by
  have C_law_cell := ok_law_cell (P := P) (w := w) (base := base) T
  have C_law_next := ok_law_next (P := P) (w := w) (base := base) T
  have C_law_stair := ok_law_stair (P := P) (w := w) (base := base) T
  refine cal_mk T.d_law_drawn_marks sc_law_drawn_marks ?_ (fun _ _ _ _ _ _ us hl => match us, hl with | [_, _, _], _ => rfl) (fun f cdv A outer s H vs Q E hr h => ?_)
  · intro vs H Q E h
    obtain ⟨a, ns, k, n, rfl, _⟩ := h
    rfl
  obtain ⟨a, ns, k, n, rfl, hS, h0, h1, h2, q⟩ := h
  refine ⟨_, (pss_cons (ps_set (i := 3) sc_law_drawn_marks.nd rfl (Or.inl rfl) (pe_callF C_law_stair (hr.mono (by decide)) (pa_cons (pv 2) pa_nil)))
      (pss_cons (ps_set (i := 4) sc_law_drawn_marks.nd rfl (Or.inl rfl) (pe_op op_sub (pv 2) (pe_op op_fdiv (pe_op op_mul (pv 3) (pe_op op_sub (pv 3) pe_int)) pe_int)))
      (pss_cons (ps_set (i := 5) sc_law_drawn_marks.nd rfl (Or.inl rfl) (pe_callF C_law_next (hr.mono (by decide)) (pa_cons (pe_op op_add (pe_op op_mod (pe_op op_mul (pe_callF C_law_cell (hr.mono (by decide)) (pa_cons (pv 0) (pa_cons (pv 1) pa_nil))) pe_int) pe_int) pe_int) pa_nil)))
      (pss_cons (ps_set (i := 6) sc_law_drawn_marks.nd rfl (Or.inl rfl) (pe_lst pa_nil))
      (pss_cons (ps_for PassesOwn.never rfl (pi_range1 (by rfl) T.m_range (pa_cons (pv 3) pa_nil)) (pg_name (i := 7) sc_law_drawn_marks.nd rfl (Or.inl rfl))
      (pss_cons (ps_set (i := 5) sc_law_drawn_marks.nd rfl (Or.inl rfl) (pe_callF C_law_next (hr.mono (by decide)) (pa_cons (pv 5) pa_nil)))
      (pss_one (ps_expr (pe_bm PySem.F.plainAttrs_list PySem.F.slot_list_insert PySem.F.type_list_insert mt_insert (pv 6) (pa_cons (pe_op op_mod (pe_op op_fdiv (pv 5) pe_int) (pe_op op_add (pv 7) pe_int)) (pa_cons (pe_callTy (T := "int") call_int1 (by rfl) T.m_int (by decide +kernel) (pa_cons (pe_cmpR op_lt (pv 7) (pv 4) (nomark _)) pa_nil)) pa_nil)))))))
      (pss_one (ps_ret (pv 6)))))))), ?_⟩
  obtain ⟨r1, r2, r3⟩ := rest_spec h1
  have hs := stair_le h1 (b := 14) (by omega) (by omega)
  have hs1 := (stair_spec h1).1
  generalize hst : stair n = S at *
  generalize hro : restOf n = R at *
  refine ⟨_, rfl, n, rfl, h1, by omega, ?_⟩
  rw [hst]
  have e1 : (n : Int) - (S : Int) * ((S : Int) - 1) / 2 = (R : Int) := by
    have : (S : Int) * ((S : Int) - 1) = ((S * (S - 1) : Nat) : Int) := by
      rw [Int.natCast_mul]
      congr 1
      omega
    rw [this]
    omega
  refine ⟨_, rfl, _, rfl, _, rfl, _, _, rfl, rfl, _, _, rfl, rfl, .inl ⟨by omega, by omega⟩, _, _, rfl, rfl, ⟨by decide, by decide⟩, _, _, rfl, rfl, ?_⟩
  refine ⟨_, rfl, _, rfl, a, ns, k, rfl, hS, h0, fun z1 => ⟨_, _, rfl, rfl, .inr ⟨by decide, by decide⟩, _, _, rfl, rfl, (by show (0 : Int) < 2147483647; decide), _, _, rfl, rfl, _, rfl, fun z2 => ?_⟩⟩
  refine ⟨Nat.zero_le _, fun M nM => ?_⟩
  refine ⟨_, rfl, _, rfl, by omega, by omega, for_range (lo := 0) (n := (S : Int).toNat) (fun i σ H' => ∃ (st y : Option V) (ms : List Int), (∃ z, st = some (.int z)) ∧ σ = [some (.ref a), some (.int k), some (.int n), some (.int S), some (.int ((n : Int) - (S : Int) * ((S : Int) - 1) / 2)), st, some (.ref M), y] ∧
    Same H H' ∧ IL H' M ms ∧ Bits ms ∧ ms.length = i ∧ ms.sum = ((min i R : Nat) : Int)) ⟨_, none, [], ⟨z2, rfl⟩, rfl, same_new nM _, upd_same, (fun m hm => by cases hm), rfl, by rw [Nat.zero_min] <;> rfl⟩ ?_ ?_⟩
  · intro i σ H' hi h
    obtain ⟨_, y, ms, ⟨z, rfl⟩, rfl, sm, eM, hb, hlen, hsum⟩ := h
    refine ⟨_, rfl, z, rfl, fun z3 => ?_⟩
    refine ⟨_, rfl, Or.inl ⟨rfl, _, sq eM⟩, _, rfl, _, _, rfl, rfl, ⟨by decide, by decide⟩, _, rfl, _, _, rfl, rfl, _, _, rfl, rfl, (by show (0 : Int) < 0 + (i : Int) + 1; omega), _, rfl, _, rfl, _, _, rfl, rfl, Or.inr ⟨_, rfl, ?_⟩⟩
    have hmod := Int.emod_nonneg (z3 / 64) (show (0 : Int) + (i : Int) + 1 ≠ 0 by omega)
    have hmod2 := Int.emod_lt_of_pos (z3 / 64) (show (0 : Int) < 0 + (i : Int) + 1 by omega)
    generalize hJ : (z3 / 64) % ((0 : Int) + (i : Int) + 1) = J at hmod hmod2
    generalize hbit : (if decide ((0 : Int) + (i : Int) < (n : Int) - (S : Int) * ((S : Int) - 1) / 2) = true then (1 : Int) else 0) = B
    have hB : (i < R ∧ B = 1) ∨ (R ≤ i ∧ B = 0) := by
      by_cases c : i < R
      · rw [e1, if_pos (decide_eq_true (by omega))] at hbit
        exact .inl ⟨c, hbit.symm⟩
      · rw [e1, if_neg (fun h => by have := of_decide_eq_true h; omega)] at hbit
        exact .inr ⟨by omega, hbit.symm⟩
    refine ⟨M, ms.map V.int, J, .int B, rfl, by rw [← hJ, ← hbit] <;> rfl, eM, by rw [nlen]; exact smallL (by omega), hmod, by omega, ?_⟩
    obtain ⟨f1, f2, f3⟩ := ins_facts (l := ms) (j := J.toNat) (x := B)
    refine ⟨_, _, ms.take J.toNat ++ [B] ++ ms.drop J.toNat, ⟨z3, rfl⟩, rfl, same_mut sm nM _, ?_, fun m hm => ?_, by omega, ?_⟩
    · show upd _ _ _ _ = _
      rw [upd_same, List.map_append, List.map_append, List.map_take, List.map_drop] <;> rfl
    · rcases (f1 m).mp hm with e | e
      · omega
      · exact hb m e
    · rw [f2, hsum]
      omega
  · intro σ H' h
    obtain ⟨_, y, ms, ⟨z, rfl⟩, rfl, sm, eM, hb, hlen, hsum⟩ := h
    refine ⟨_, rfl, q ms hb (by omega) (by rw [hsum]; omega) H' M sm nM eM⟩

end

section
variable {P : Program} {w : World} {K : PySem.W.Frag} {mg : Str → Option Value} {base : Heap}
theorem sc_law_elder : FnScope ["piles", "number", "many", "some", "at", "rest", "pile", "k"] ["piles", "number"] (defScope s_law_elder) := ⟨rfl, rfl, rfl, by decide +kernel, rfl, by decide +kernel, by decide +kernel⟩
def sp_law_elder (K : PySem.W.Frag) : Sp := fun vs H Q _ => ∃ (a : Addr) (ns : List Int) (z n : Int), vs = [.ref a, .int z] ∧ IL H a ns ∧ IsSet n ns ∧ n ≤ 100 ∧
  ∀ H' p ms, Same H H' → IL H' p ms → IsSet n ms → Q (.ref p) H'
theorem ok_law_elder (T : Txt K mg) : Cal P w K mg base CX0 1 "_law_elder" ["piles", "number"] (sp_law_elder K) := by
  refine cal_mk T.d_law_elder sc_law_elder ?_ (fun _ _ _ _ _ _ us hl => match us, hl with | [_, _], _ => rfl) (fun f cdv A outer s H vs Q E hr h => ?_)
  · intro vs H Q E h
    obtain ⟨a, ns, z, n, rfl, _⟩ := h
    rfl
  obtain ⟨a, ns, z, n, rfl, hS, hset, hn, q⟩ := h
  have hlen := hset.len
  refine ⟨_, (pss_cons (ps_set (i := 2) sc_law_elder.nd rfl (Or.inr rfl) (pe_callB call_len_seq (by rfl) T.m_len PySem.boot_len (pa_cons (pv 0) pa_nil)))
      (pss_cons (ps_setLc (i := 3) (own := [("at", 4)]) (g := gName 4) rfl sc_law_elder.nd rfl rfl (sw_true rfl rfl rfl (by decide +kernel)) (pi_range1 (by rfl) T.m_range (pa_cons (pv 2) pa_nil)) (blkOk_by (own := [("at", 4)]) (N := ["piles", "number", "many", "some", "at", "rest", "pile", "k"]) (sc := defScope s_law_elder) (by decide +kernel)) (fun _ _ _ _ _ => pg_name (i := 4) sc_law_elder.nd rfl (Or.inl rfl)) (fun _ _ _ _ _ => (pts_one (pt_cmpR op_ge (pe_ix (ix_listK K) (pv 0) (pv 4) (fun _ _ => rfl)) (pe_op op_sub (pv 2) pe_int) (nomark _)))) (fun _ _ _ _ _ => (pv 4)))
      (pss_cons (ps_if (pt_cmpR op_eq (pe_callB call_len_seq (by rfl) T.m_len PySem.boot_len (pa_cons (pv 3) pa_nil)) pe_int (nomark _))
      (pss_one (ps_ret (pv 0))) pss_nil)
      (pss_cons (ps_set (i := 4) sc_law_elder.nd rfl (Or.inl rfl) (pe_ix ix_list (pv 3) (pe_op op_mod (pv 1) (pe_callB call_len_seq (by rfl) T.m_len PySem.boot_len (pa_cons (pv 3) pa_nil))) (fun _ _ => rfl)))
      (pss_cons (ps_setLc (i := 5) (own := [("pile", 6)]) (g := gName 6) rfl sc_law_elder.nd rfl rfl (sw_true rfl rfl rfl (by decide +kernel)) (pi_list (pe_op op_cat (pe_slice sl_list (pv 0) po_none (po_some (pv 4))) (pe_slice sl_list (pv 0) (po_some (pe_op op_add (pv 4) pe_int)) po_none))) (blkOk_by (own := [("pile", 6)]) (N := ["piles", "number", "many", "some", "at", "rest", "pile", "k"]) (sc := defScope s_law_elder) (by decide +kernel)) (fun _ _ _ _ _ => pg_name (i := 6) sc_law_elder.nd rfl (Or.inl rfl)) (fun _ _ _ _ _ => pts_nil) (fun _ _ _ _ _ => (pe_op op_add (pv 6) pe_int)))
      (pss_one (ps_ret (pe_op op_cat (pv 5) (pe_lc (own := [("k", 7)]) (g := gName 7) rfl sc_law_elder.nd (pi_range1 (by rfl) T.m_range (pa_cons (pe_op op_sub (pe_ix ix_list (pv 0) (pv 4) (fun _ _ => rfl)) (pe_callB call_len_seq (by rfl) T.m_len PySem.boot_len (pa_cons (pv 5) pa_nil))) pa_nil)) (blkOk_by (own := [("k", 7)]) (N := ["piles", "number", "many", "some", "at", "rest", "pile", "k"]) (sc := defScope s_law_elder) (by decide +kernel)) (fun _ _ _ _ _ => pg_name (i := 7) sc_law_elder.nd rfl (Or.inl rfl)) (fun _ _ _ _ _ => pts_nil) (fun _ _ _ _ _ => pe_int)))))))))), ?_⟩
  refine ⟨_, rfl, a, _, rfl, .inl (sq hS), ?_⟩
  rw [nlen]
  -- some
  refine ⟨_, rfl, _, rfl, by omega, by omega, fun D nD => lc_range (lo := 0) (n := (ns.length : Int).toNat) (fun i H' => Same H H' ∧ ∃ is : List Int, IL H' D is ∧ is.length ≤ i ∧ ∀ x ∈ is, ∃ (j : Nat) (p : Int), x = j ∧ ns[j]? = some p ∧ p ≥ (ns.length : Int) - 1)
    ⟨same_new nD _, [], upd_same, Nat.le_refl _, fun x hx => by cases hx⟩ ?_ ?_⟩
  · intro i H' hi h
    obtain ⟨sm, is, eD, hi2, hall⟩ := h
    have hi : i < ns.length := by omega
    refine ⟨rfl, _, rfl, _, rfl, a, _, _, .int ns[i], rfl, rfl, sq (sm _ _ hS), at_of (j := i) (by omega) (int_get (List.getElem?_eq_getElem hi)), _, rfl, _, _, rfl, rfl, _, _, rfl, rfl, _, rfl, ite2 (fun c => ?_) (fun c => ?_)⟩
    · have c' : (ns.length : Int) - 1 ≤ ns[i] := of_decide_eq_true c
      refine ⟨_, rfl, _, eD, by rw [nlen]; exact smallL (by omega), same_mut sm nD _, is ++ [(i : Int)], ?_, by rw [List.length_append, List.length_singleton]; omega, fun x hx => ?_⟩
      · show upd _ _ _ _ = _
        rw [upd_same, List.map_append, Int.zero_add] <;> rfl
      · rcases List.mem_append.mp hx with hx | hx
        · exact hall x hx
        · exact ⟨i, ns[i], List.mem_singleton.mp hx, List.getElem?_eq_getElem hi, c'⟩
    · exact ⟨sm, is, eD, by omega, hall⟩
  · intro H1 h
    obtain ⟨sm, is, eD, hi2, hall⟩ := h
    -- if len(some) == 0
    refine ⟨_, rfl, D, _, rfl, .inl (sq eD), rfl, _, rfl, ?_⟩
    rw [nlen]
    refine ite2 (fun c => ?_) (fun c => ?_)
    · exact ⟨_, rfl, q H1 a ns sm (sm _ _ hS) hset⟩
    · have hpos : 0 < is.length := by
        rcases Nat.eq_zero_or_pos is.length with e | e
        · exact absurd (decide_eq_true (by rw [e] <;> rfl)) c
        · exact e
      have hm1 := Int.emod_nonneg z (show (is.length : Int) ≠ 0 by omega)
      have hm2 := Int.emod_lt_of_pos z (show (0 : Int) < (is.length : Int) by omega)
      obtain ⟨J, hJ⟩ : ∃ J : Nat, z % (is.length : Int) = J := ⟨(z % (is.length : Int)).toNat, by omega⟩
      have hJl : J < is.length := by omega
      obtain ⟨j, p, ej, hp, hb⟩ := hall is[J] (List.getElem_mem hJl)
      have hjl : j < ns.length := (List.getElem?_eq_some_iff.mp hp).1
      refine ⟨_, rfl, _, rfl, _, rfl, D, _, rfl, .inl (sq eD), _, _, rfl, rfl, (by rw [nlen]; show (0 : Int) < _; omega), D, _, _, .int is[J], rfl, rfl, sq eD, at_of (j := J) (by rw [nlen]; exact hJ) (int_get (List.getElem?_eq_getElem hJl)), ?_⟩
      rw [ej]
      -- rest
      have hA1 : SqL K H1 a (ns.map V.int) := sq (sm _ _ hS)
      refine ⟨_, rfl, _, rfl, _, rfl, a, _, rfl, hA1, fun p1 n1 => ?_⟩
      rw [cut_to _ (by rw [nlen]; omega)]
      have sm1 := same_new n1 (.lst ((ns.map V.int).take j))
      refine ⟨_, rfl, _, rfl, _, _, rfl, rfl, (j : Int) + 1, rfl, a, _, rfl, sm1.seq hA1, fun p2 n2 => ?_⟩
      rw [show (j : Int) + 1 = ((j + 1 : Nat) : Int) by omega, cut_from _ (by rw [nlen]; omega)]
      have sm2 := same_new n2 (.lst ((ns.map V.int).drop (j + 1)))
      obtain ⟨s1, s2⟩ := take_drop_sum hp
      refine ⟨p1, p2, _, _, rfl, rfl, sm2 _ _ upd_same, upd_same, by rw [List.length_take, List.length_drop, nlen]; exact small (by omega), fun p3 n3 => ?_⟩
      have sm3 := same_new n3 (.lst ((ns.map V.int).take j ++ (ns.map V.int).drop (j + 1)))
      have e3 : IL (upd (upd (upd H1 p1 (.lst ((ns.map V.int).take j))) p2 (.lst ((ns.map V.int).drop (j + 1)))) p3 (.lst ((ns.map V.int).take j ++ (ns.map V.int).drop (j + 1)))) p3 (ns.take j ++ ns.drop (j + 1)) := by
        show upd _ _ _ _ = _
        rw [upd_same, List.map_append, List.map_take, List.map_drop]
      have smA := (sm1.trans sm2).trans sm3
      generalize (upd (upd (upd H1 p1 (.lst ((ns.map V.int).take j))) p2 (.lst ((ns.map V.int).drop (j + 1)))) p3 (.lst ((ns.map V.int).take j ++ (ns.map V.int).drop (j + 1)))) = H2 at *
      generalize hrs : ns.take j ++ ns.drop (j + 1) = rs at *
      refine ⟨p3, rfl, ⟨_, sq e3⟩, fun G nG => lc_list (K := K) (a := p3) (xs := rs.map V.int) (fun i H' => Same H2 H' ∧ IL H' G ((rs.take i).map (· + 1))) ⟨same_new nG _, upd_same⟩ (fun i H' _ h => sq (h.1 _ _ e3)) ?_ ?_⟩
      · intro i x H' hx h
        obtain ⟨y, hy, rfl⟩ := get_int hx
        obtain ⟨sm4, eG⟩ := h
        have hil : i < rs.length := (List.getElem?_eq_some_iff.mp hy).1
        refine ⟨rfl, _, rfl, _, _, rfl, rfl, _, eG, ?_, same_mut sm4 nG _, ?_⟩
        · rw [nlen, List.length_map, List.length_take]
          exact smallL (by omega)
        · show upd _ _ _ _ = _
          rw [upd_same, take_snoc hy, List.map_append, List.map_append] <;> rfl
      · intro H3 h
        obtain ⟨sm4, eG⟩ := h
        rw [nlen, List.take_length] at eG
        have smB := sm.trans (smA.trans sm4)
        have hA3 : SqL K H3 a (ns.map V.int) := sq (smB _ _ hS)
        have hpn : 1 ≤ p := hset.1.pos p (List.mem_of_getElem? hp)
        have hpn2 := hset.le (List.mem_of_getElem? hp)
        have hcnt : ((rs.map (· + 1)).map V.int).length = rs.length := by rw [nlen, List.length_map]
        -- rest + [1 for k in ..]
        refine ⟨_, rfl, _, rfl, _, rfl, a, _, _, .int p, rfl, rfl, hA3, at_of (j := j) rfl (int_get hp), _, rfl, G, _, rfl, .inl (sq eG), _, _, rfl, rfl, _, rfl, ?_⟩
        rw [hcnt]
        refine ⟨by omega, by omega, fun N nN => lc_range (lo := 0) (n := (p - (rs.length : Int)).toNat) (fun i H' => Same H3 H' ∧ IL H' N (List.replicate i 1)) ⟨same_new nN _, upd_same⟩ ?_ ?_⟩
        · intro i H' hi h
          obtain ⟨sm5, eN⟩ := h
          refine ⟨rfl, _, eN, by rw [nlen, List.length_replicate]; exact smallL (by omega), same_mut sm5 nN _, ?_⟩
          show upd _ _ _ _ = _
          rw [upd_same, List.replicate_succ', List.map_append] <;> rfl
        · intro H4 h
          obtain ⟨sm5, eN⟩ := h
          refine ⟨G, N, _, _, rfl, rfl, sm5 _ _ eG, eN, by rw [nlen, nlen, List.length_map, List.length_replicate]; exact small (by omega), fun r nr => ?_⟩
          refine q _ r (elderAt ns j p) ((smB.trans sm5).trans (same_new nr _)) ?_ (elder_set hset hp hb)
          show upd _ _ _ _ = _
          rw [upd_same, ← List.map_append]
          unfold elderAt
          rw [hrs, show (rs.length : Int) = (ns.length : Int) - 1 by omega]

end

section
variable {P : Program} {w : World} {K : PySem.W.Frag} {mg : Str → Option Value} {base : Heap}
theorem sc_law_drawn_piles : FnScope ["script", "k", "coins", "cap", "step", "piles", "left"] ["script", "k", "coins", "cap"] (defScope s_law_drawn_piles) := ⟨rfl, rfl, rfl, by decide +kernel, rfl, by decide +kernel, by decide +kernel⟩
def sp_law_drawn_piles (K : PySem.W.Frag) : Sp := fun vs H Q _ => ∃ (a : Addr) (ns : List Int) (k n c : Int), vs = [.ref a, .int k, .int n, .int c] ∧ SL K H a ns ∧ 0 ≤ k ∧ 1 ≤ n ∧ n ≤ 100 ∧ 1 ≤ c ∧
  ∀ ms : List Int, IsSet n ms → NL Q H ms
theorem ok_law_drawn_piles (T : Txt K mg) : Cal P w K mg base CX0 2 "_law_drawn_piles" ["script", "k", "coins", "cap"] (sp_law_drawn_piles K) := by
  have C_law_cell := ok_law_cell (P := P) (w := w) (base := base) T
  have C_law_fallen := ok_law_fallen (P := P) (w := w) (base := base) T
  have C_law_next := ok_law_next (P := P) (w := w) (base := base) T
  refine cal_mk T.d_law_drawn_piles sc_law_drawn_piles ?_ (fun _ _ _ _ _ _ us hl => match us, hl with | [_, _, _, _], _ => rfl) (fun f cdv A outer s H vs Q E hr h => ?_)
  · intro vs H Q E h
    obtain ⟨a, ns, k, n, c, rfl, _⟩ := h
    rfl
  obtain ⟨a, ns, k, n, c, rfl, hS, h0, h1, h2, h3, q⟩ := h
  refine ⟨_, (pss_cons (ps_set (i := 4) sc_law_drawn_piles.nd rfl (Or.inl rfl) (pe_callF C_law_next (hr.mono (by decide)) (pa_cons (pe_op op_add (pe_op op_mod (pe_op op_mul (pe_callF C_law_cell (hr.mono (by decide)) (pa_cons (pv 0) (pa_cons (pv 1) pa_nil))) pe_int) pe_int) pe_int) pa_nil)))
      (pss_cons (ps_set (i := 5) sc_law_drawn_piles.nd rfl (Or.inl rfl) (pe_lst pa_nil))
      (pss_cons (ps_set (i := 6) sc_law_drawn_piles.nd rfl (Or.inl rfl) (pv 2))
      (pss_cons (ps_while PassesOwn.never (pt_cmpR op_gt (pv 6) pe_int (nomark _))
      (pss_cons (ps_set (i := 4) sc_law_drawn_piles.nd rfl (Or.inl rfl) (pe_callF C_law_next (hr.mono (by decide)) (pa_cons (pv 4) pa_nil)))
      (pss_cons (ps_expr (pe_bm PySem.F.plainAttrs_list PySem.F.slot_list_append PySem.F.type_list_append mt_append (pv 5) (pa_cons (pe_op op_add pe_int (pe_op op_mod (pe_op op_fdiv (pv 4) pe_int) (pe_callB (call_min2 rfl) (by rfl) T.m_min (by decide +kernel) (pa_cons (pv 6) (pa_cons (pv 3) pa_nil))))) pa_nil)))
      (pss_one (ps_set (i := 6) sc_law_drawn_piles.nd rfl (Or.inl rfl) (pe_op op_sub (pv 6) (pe_ix ix_list (pv 5) (pe_un un_neg pe_int) (fun _ _ => rfl))))))))
      (pss_one (ps_ret (pe_callF C_law_fallen (hr.mono (by decide)) (pa_cons (pv 5) pa_nil)))))))), ?_⟩
  refine ⟨_, rfl, _, rfl, a, ns, k, rfl, hS, h0, fun z1 => ⟨_, _, rfl, rfl, .inr ⟨by decide, by decide⟩, _, _, rfl, rfl, (by show (0 : Int) < 2147483647; decide), _, _, rfl, rfl, _, rfl, fun z2 => ?_⟩⟩
  refine ⟨Nat.zero_le _, fun M nM => ?_⟩
  refine ⟨_, rfl, ?_⟩
  refine ⟨fun m σ H' => ∃ (z l : Int) (ms : List Int), σ = [some (.ref a), some (.int k), some (.int n), some (.int c), some (.int z), some (.ref M), some (.int l)] ∧ Same H H' ∧ IL H' M ms ∧ (∀ x ∈ ms, 1 ≤ x) ∧ 0 ≤ l ∧ ms.sum + l = n ∧ m = l.toNat,
    ⟨_, z2, n, [], rfl, same_new nM _, upd_same, (fun x hx => by cases hx), by omega, by show (0 : Int) + n = n; omega, rfl⟩, fun m σ H' hW => ?_⟩
  obtain ⟨z, l, ms, rfl, sm, eM, hp, hl, hsum, rfl⟩ := hW
  have hlen := len_le_sum hp
  refine ⟨_, rfl, _, _, rfl, rfl, _, rfl, ite2 (fun t => ?_) (fun t => ?_)⟩
  · have t' : 0 < l := of_decide_eq_true t
    refine ⟨fun σ' H2 => ∃ (z l' : Int) (ms : List Int), σ' = [some (.ref a), some (.int k), some (.int n), some (.int c), some (.int z), some (.ref M), some (.int l')] ∧ Same H H2 ∧ IL H2 M ms ∧ (∀ x ∈ ms, 1 ≤ x) ∧ 0 ≤ l' ∧ ms.sum + l' = n ∧ l' < l, fun σ' H2 h => ?_, ?_⟩
    · obtain ⟨z, l', ms, e, a1, a2, a3, a4, a5, a6⟩ := h
      exact ⟨l'.toNat, by omega, z, l', ms, e, a1, a2, a3, a4, a5, rfl⟩
    · refine ⟨_, rfl, z, rfl, fun z3 => ?_⟩
      have hmin : (1 : Int) ≤ (if c < l then c else l) ∧ (if c < l then c else l) ≤ l := by
        by_cases h : c < l
        · rw [if_pos h]
          omega
        · rw [if_neg h]
          omega
      generalize hg : (if c < l then c else l) = g at hmin
      have hm1 := Int.emod_nonneg (z3 / 64) (show g ≠ 0 by omega)
      have hm2 := Int.emod_lt_of_pos (z3 / 64) (show 0 < g by omega)
      refine ⟨_, rfl, Or.inl ⟨rfl, _, sq eM⟩, _, rfl, _, _, rfl, rfl, ⟨by decide, by decide⟩, _, rfl, _, rfl, l, c, rfl, ?_⟩
      rw [hg]
      refine ⟨_, _, rfl, rfl, (by show (0 : Int) < g; omega), _, _, rfl, rfl, M, ms.map V.int, _, rfl, rfl, eM, by rw [nlen]; exact smallL (by omega), ?_⟩
      refine ⟨_, rfl, _, rfl, _, rfl, M, _, _, .int (1 + (z3 / 64) % g), rfl, rfl, sq upd_same, atI_last _ _, _, _, rfl, rfl, ?_⟩
      refine ⟨z3, l - (1 + (z3 / 64) % g), ms ++ [1 + (z3 / 64) % g], rfl, same_mut sm nM _, ?_, fun y hy => ?_, by omega, ?_, by omega⟩
      · show upd _ _ _ _ = _
        rw [upd_same, List.map_append] <;> rfl
      · rcases List.mem_append.mp hy with hy | hy
        · exact hp y hy
        · rw [List.mem_singleton.mp hy]
          omega
      · rw [List.sum_append, List.sum_cons, List.sum_nil]
        omega
  · have t' : ¬ 0 < l := fun h => t (decide_eq_true h)
    have hs : ms.sum = n := by omega
    refine ⟨_, rfl, M, ms, rfl, eM, fun H2 p s2 np ep => q (fall ms) ⟨⟨fun x hx => hp x ((fall_perm ms).mem_iff.mp hx), fall_falls ms, fun e => ?_⟩, by rw [fall_sum]; exact hs⟩ H2 p (sm.trans s2) (sm.free np) ep⟩
    have := fall_sum ms
    rw [e, hs] at this
    have : (0 : Int) = n := this
    omega

end

section
variable {P : Program} {w : World} {K : PySem.W.Frag} {mg : Str → Option Value} {base : Heap}
theorem sc_law_setting : FnScope ["script", "k", "coins", "way", "cap", "j", "piles", "step", "turn"] ["script", "k", "coins"] (defScope s_law_setting) := ⟨rfl, rfl, rfl, by decide +kernel, rfl, by decide +kernel, by decide +kernel⟩
def sp_law_setting (K : PySem.W.Frag) : Sp := fun vs H Q _ => ∃ (a : Addr) (ns : List Int) (k : Int) (n : Nat), vs = [.ref a, .int k, .int n] ∧ SL K H a ns ∧ 0 ≤ k ∧ 1 ≤ n ∧ n ≤ 100 ∧
  ∀ ms : List Int, IsSet n ms → ∀ H' p, Same H H' → IL H' p ms → Q (.ref p) H'
theorem ones_set {n : Nat} (h : 1 ≤ n) : IsSet n (List.replicate n 1) := by
  refine ⟨⟨fun x hx => by rw [List.eq_of_mem_replicate hx]; exact Int.le_refl 1, List.pairwise_replicate.mpr (.inr (Int.le_refl 1)), fun e => ?_⟩, sum_replicate n⟩
  have := congrArg List.length e
  rw [List.length_replicate, List.length_nil] at this
  omega
theorem one_set {n : Nat} (h : 1 ≤ n) : IsSet n [(n : Int)] :=
  ⟨⟨fun x hx => by rw [List.mem_singleton.mp hx]; omega, List.pairwise_singleton _ _, List.cons_ne_nil _ _⟩, by rw [List.sum_cons, List.sum_nil]; omega⟩
theorem ok_law_setting (T : Txt K mg) : Cal P w K mg base CX0 3 "_law_setting" ["script", "k", "coins"] (sp_law_setting K) := by
  have C_law_by_marks := ok_law_by_marks (P := P) (w := w) (base := base) T
  have C_law_cell := ok_law_cell (P := P) (w := w) (base := base) T
  have C_law_drawn_marks := ok_law_drawn_marks (P := P) (w := w) (base := base) T
  have C_law_drawn_piles := ok_law_drawn_piles (P := P) (w := w) (base := base) T
  have C_law_elder := ok_law_elder (P := P) (w := w) (base := base) T
  have C_law_next := ok_law_next (P := P) (w := w) (base := base) T
  refine cal_mk T.d_law_setting sc_law_setting ?_ (fun _ _ _ _ _ _ us hl => match us, hl with | [_, _, _], _ => rfl) (fun f cdv A outer s H vs Q E hr h => ?_)
  · intro vs H Q E h
    obtain ⟨a, ns, k, n, rfl, _⟩ := h
    rfl
  obtain ⟨a, ns, k, n, rfl, hS, h0, h1, h2, q⟩ := h
  have hs := stair_le h1 (b := 14) (by omega) (by omega)
  refine ⟨_, (pss_cons (ps_set (i := 3) sc_law_setting.nd rfl (Or.inl rfl) (pe_op op_mod (pe_callF C_law_cell (hr.mono (by decide)) (pa_cons (pv 0) (pa_cons (pv 1) pa_nil))) pe_int))
      (pss_cons (ps_set (i := 4) sc_law_setting.nd rfl (Or.inl rfl) (pe_op op_add pe_int (pe_op op_mod (pe_callF C_law_cell (hr.mono (by decide)) (pa_cons (pv 0) (pa_cons (pe_op op_add (pv 1) pe_int) pa_nil))) (pv 2))))
      (pss_cons (ps_if (PW.pt (pw_or (pt_cmpR op_eq (pv 3) pe_int (nomark _)) (pw_or1 (pt_cmpR op_eq (pv 3) pe_int (nomark _)))))
      (pss_one (ps_ret (pe_callF C_law_drawn_piles (hr.mono (by decide)) (pa_cons (pv 0) (pa_cons (pe_op op_add (pv 1) pe_int) (pa_cons (pv 2) (pa_cons (pv 4) pa_nil))))))) pss_nil)
      (pss_cons (ps_if (pt_cmpR op_eq (pv 3) pe_int (nomark _))
      (pss_one (ps_ret (pe_ix ix_list (pe_lst (pa_cons (pe_lst (pa_cons (pv 2) pa_nil)) (pa_cons (pe_lc (own := [("j", 5)]) (g := gName 5) rfl sc_law_setting.nd (pi_range1 (by rfl) T.m_range (pa_cons (pv 2) pa_nil)) (blkOk_by (own := [("j", 5)]) (N := ["script", "k", "coins", "way", "cap", "j", "piles", "step", "turn"]) (sc := defScope s_law_setting) (by decide +kernel)) (fun _ _ _ _ _ => pg_name (i := 5) sc_law_setting.nd rfl (Or.inl rfl)) (fun _ _ _ _ _ => pts_nil) (fun _ _ _ _ _ => pe_int)) pa_nil))) (pe_op op_mod (pe_callF C_law_cell (hr.mono (by decide)) (pa_cons (pv 0) (pa_cons (pe_op op_add (pv 1) pe_int) pa_nil))) pe_int) (fun _ _ => rfl)))) pss_nil)
      (pss_cons (ps_set (i := 6) sc_law_setting.nd rfl (Or.inl rfl) (pe_callF C_law_by_marks (hr.mono (by decide)) (pa_cons (pe_callF C_law_drawn_marks (hr.mono (by decide)) (pa_cons (pv 0) (pa_cons (pe_op op_add (pv 1) pe_int) (pa_cons (pv 2) pa_nil)))) pa_nil)))
      (pss_cons (ps_set (i := 7) sc_law_setting.nd rfl (Or.inl rfl) (pe_callF C_law_next (hr.mono (by decide)) (pa_cons (pe_op op_add (pe_op op_mod (pe_op op_mul (pe_callF C_law_cell (hr.mono (by decide)) (pa_cons (pv 0) (pa_cons (pe_op op_add (pv 1) pe_int) pa_nil))) pe_int) pe_int) pe_int) pa_nil)))
      (pss_cons (ps_if (pt_cmpR op_gt (pv 3) pe_int (nomark _))
      (pss_one (ps_for PassesOwn.never rfl (pi_range1 (by rfl) T.m_range (pa_cons (pe_op op_mod (pe_callF C_law_cell (hr.mono (by decide)) (pa_cons (pv 0) (pa_cons (pe_op op_add (pv 1) pe_int) pa_nil))) pe_int) pa_nil)) (pg_name (i := 8) sc_law_setting.nd rfl (Or.inl rfl))
      (pss_cons (ps_set (i := 7) sc_law_setting.nd rfl (Or.inl rfl) (pe_callF C_law_next (hr.mono (by decide)) (pa_cons (pv 7) pa_nil)))
      (pss_one (ps_set (i := 6) sc_law_setting.nd rfl (Or.inl rfl) (pe_callF C_law_elder (hr.mono (by decide)) (pa_cons (pv 6) (pa_cons (pe_op op_fdiv (pv 7) pe_int) pa_nil)))))))) pss_nil)
      (pss_one (ps_ret (pv 6)))))))))), ?_⟩
  -- way, cap
  refine ⟨_, rfl, _, rfl, a, ns, k, rfl, hS, h0, fun z1 => ⟨_, _, rfl, rfl, (by show (0 : Int) < 6; decide), ?_⟩⟩
  refine ⟨_, rfl, _, rfl, _, _, rfl, rfl, a, ns, k + 1, rfl, hS, by omega, fun z2 => ⟨_, rfl, _, _, rfl, rfl, (by show (0 : Int) < (n : Int); omega), _, _, rfl, rfl, ?_⟩⟩
  have hc1 := Int.emod_nonneg z2 (show (n : Int) ≠ 0 by omega)
  -- way == 0 or way == 1
  refine ⟨_, rfl, rfl, _, rfl, ite2 (fun _ => ?w0) (fun _ => ⟨_, rfl, rfl, _, rfl, ite2 (fun _ => ?w1) (fun _ => ?_)⟩)⟩
  case' w0 => skip
  case' w1 => skip
  iterate 2
    · exact ⟨_, rfl, _, rfl, _, _, rfl, rfl, _, rfl, _, rfl, a, ns, k + 2, n, 1 + z2 % (n : Int), rfl, hS, by omega, by omega, by omega, by omega, fun ms hm H' p sm _ ep => q ms hm H' p sm ep⟩
  -- way == 2
  refine ⟨_, rfl, rfl, _, rfl, ite2 (fun _ => ?_) (fun _ => ?_)⟩
  · refine ⟨_, rfl, (by show 1 ≤ sizeLine; decide), fun p1 n1 => ?_⟩
    have sm1 := same_new n1 (.lst [.int n])
    refine ⟨_, rfl, n, rfl, by omega, by omega, fun D nD => lc_range (lo := 0) (n := (n : Int).toNat) (fun i H' => Same (upd H p1 (.lst [.int n])) H' ∧ IL H' D (List.replicate i 1)) ⟨same_new nD _, upd_same⟩ ?_ ?_⟩
    · intro i H' hi h
      obtain ⟨sm, eD⟩ := h
      refine ⟨rfl, _, eD, by rw [nlen, List.length_replicate]; exact smallL (by omega), same_mut sm nD _, ?_⟩
      show upd _ _ _ _ = _
      rw [upd_same, List.replicate_succ', List.map_append] <;> rfl
    · intro H1 h
      obtain ⟨sm, eD⟩ := h
      refine ⟨(by show 2 ≤ sizeLine; decide), fun p2 n2 => ?_⟩
      have smA := (sm1.trans sm).trans (same_new n2 (.lst [.ref p1, .ref D]))
      have e1 : IL (upd H1 p2 (.lst [.ref p1, .ref D])) p1 [(n : Int)] := same_new n2 _ _ _ (sm _ _ upd_same)
      have e2 : IL (upd H1 p2 (.lst [.ref p1, .ref D])) D (List.replicate (n : Int).toNat 1) := same_new n2 _ _ _ eD
      refine ⟨_, rfl, _, rfl, _, _, rfl, rfl, a, ns, k + 1, rfl, smA.seq hS, by omega, fun z3 => ⟨_, _, rfl, rfl, (by show (0 : Int) < 2; decide), ?_⟩⟩
      have hz := Int.emod_two_eq z3
      rcases hz with hz | hz
      · exact ⟨p2, _, _, .ref p1, rfl, rfl, sq upd_same, at_of (j := 0) hz rfl, q _ (one_set h1) _ _ smA e1⟩
      · exact ⟨p2, _, _, .ref D, rfl, rfl, sq upd_same, at_of (j := 1) hz rfl, q _ (by rw [Int.toNat_natCast]; exact ones_set h1) _ _ smA e2⟩
  · -- round ones and elders
    refine ⟨_, rfl, _, rfl, _, _, rfl, rfl, _, rfl, a, ns, k + 2, n, rfl, hS, by omega, h1, h2, fun ms hb hl hsum H1 p1 sm1 n1 e1 => ?_⟩
    refine ⟨p1, ms, rfl, e1, by omega, fun H2 p2 sm2 n2 e2 => ?_⟩
    have hset := ofMarks_set h1 hb hl hsum
    have smA := sm1.trans sm2
    refine ⟨_, rfl, _, rfl, _, _, rfl, rfl, a, ns, k + 3, rfl, smA.seq hS, by omega, fun z3 => ⟨_, _, rfl, rfl, .inr ⟨by decide, by decide⟩, _, _, rfl, rfl, (by show (0 : Int) < 2147483647; decide), _, _, rfl, rfl, _, rfl, fun z4 => ?_⟩⟩
    refine ⟨_, rfl, _, _, rfl, rfl, _, rfl, ite2 (fun _ => ?_) (fun _ => ?_)⟩
    · refine ⟨_, rfl, _, rfl, _, _, rfl, rfl, a, ns, k + 1, rfl, smA.seq hS, by omega, fun z5 => ⟨_, _, rfl, rfl, (by show (0 : Int) < 120; decide), ?_⟩⟩
      have hm1 := Int.emod_nonneg z5 (show (120 : Int) ≠ 0 by decide)
      have hm2 := Int.emod_lt_of_pos z5 (show (0 : Int) < 120 by decide)
      refine ⟨_, rfl, by omega, by omega, for_range (lo := 0) (n := (z5 % 120).toNat) (fun i σ H' => ∃ (p : Addr) (z : Int) (y : Option V) (ms : List Int), σ = [some (.ref a), some (.int k), some (.int n), some (.int (z1 % 6)), some (.int (1 + z2 % (n : Int))), none, some (.ref p), some (.int z), y] ∧ Same H H' ∧ IL H' p ms ∧ IsSet n ms)
        ⟨p2, z4, none, ofMarks ms, rfl, smA, e2, hset⟩ ?_ ?_⟩
      · intro i σ H' hi h
        obtain ⟨p, z, y, ms', rfl, sm, ep, hset⟩ := h
        refine ⟨_, rfl, z, rfl, fun z6 => ?_⟩
        exact ⟨_, rfl, _, rfl, _, _, rfl, rfl, ⟨by decide, by decide⟩, p, ms', z6 / 64, n, rfl, ep, hset, by omega, fun H3 p3 ms3 sm3 ep3 hset3 => ⟨p3, z6, _, ms3, rfl, sm.trans sm3, ep3, hset3⟩⟩
      · intro σ H' h
        obtain ⟨p, z, y, ms', rfl, sm, ep, hset⟩ := h
        exact ⟨_, rfl, q ms' hset H' p sm ep⟩
    · exact ⟨_, rfl, q _ hset H2 p2 smA e2⟩

end

/-! ### the law -/
def spLaw (K : PySem.W.Frag) : Sp := fun vs H Q _ => ∃ (a : Addr) (ns : List Int), vs = [.ref a] ∧ SL K H a ns ∧ ns.length ≤ 63 ∧ ∀ H', Q (.bl true) H'
theorem nat_of {z : Int} {m : Int} (h : 0 < m) : ∃ n : Nat, 1 + z % m = (n : Int) ∧ 1 ≤ n ∧ (n : Int) ≤ m := by
  have h1 := Int.emod_nonneg z (show m ≠ 0 by omega)
  have h2 := Int.emod_lt_of_pos z h
  exact ⟨(1 + z % m).toNat, by omega, by omega, by omega⟩

section
variable {P : Program} {w : World} {K : PySem.W.Frag} {mg : Str → Option Value} {base : Heap}
theorem sc_law_asked : FnScope ["way", "coins"] ["way", "coins"] (defScope s_law_asked) := ⟨rfl, rfl, rfl, by decide +kernel, rfl, by decide +kernel, by decide +kernel⟩
def mostOf (y : Int) : Int := if y = 0 then 18 else if y = 1 then 36 else if y = 2 then 2000 else 18
def sp_law_asked (K : PySem.W.Frag) : Sp := fun vs H Q E => ∃ y z : Int, vs = [.int y, .int z] ∧ (1 ≤ z ∧ z ≤ mostOf y → ∀ v H', Same H H' → Q v H') ∧ (¬ (1 ≤ z ∧ z ≤ mostOf y) → E (.ref (He.ga K "NoNumber")) none H)
theorem ok_law_asked (T : Txt K mg) : Cal P w K mg base (L2N.CX P w) 23 "_law_asked" ["way", "coins"] (sp_law_asked K) := by
  have C_drawn_in := ok_drawn_in (P := P) (w := w) (base := base) T
  have C_rings_many := ok_rings_many (P := P) (w := w) (base := base) T
  have C_rings_of := ok_rings_of (P := P) (w := w) (base := base) T
  have C_settings_of := ok_settings_of (P := P) (w := w) (base := base) T
  refine cal_mkX T.d_law_asked sc_law_asked ?_ (fun _ _ _ _ _ _ us hl => match us, hl with | [_, _], _ => rfl) (fun f cdv A outer s H vs Q E hr h tk => ?_)
  · intro vs H Q E h
    obtain ⟨y, z, rfl, _⟩ := h
    rfl
  obtain ⟨y, z, rfl, q, e⟩ := h
  refine ⟨_, (pss_cons (ps_if (pt_cmpR op_eq (pv 0) pe_int (nomark _))
      (pss_one (ps_ret (pe_callX C_settings_of tk (hr.mono (by decide)) (pa_cons (pv 1) pa_nil)))) pss_nil)
      (pss_cons (ps_if (pt_cmpR op_eq (pv 0) pe_int (nomark _))
      (pss_one (ps_ret (pe_callX C_rings_of tk (hr.mono (by decide)) (pa_cons (pv 1) pa_nil)))) pss_nil)
      (pss_cons (ps_if (pt_cmpR op_eq (pv 0) pe_int (nomark _))
      (pss_one (ps_ret (pe_lst (pa_cons (pe_callX C_rings_many tk (hr.mono (by decide)) (pa_cons (pv 1) pa_nil)) pa_nil)))) pss_nil)
      (pss_one (ps_ret (pe_callX C_drawn_in tk (hr.mono (by decide)) (pa_cons (pv 1) pa_nil))))))), ?_⟩
  have ne : ∀ i : Int, (decide (V.int y = V.int i)) = true → y = i := fun i h => V.int.inj (of_decide_eq_true h)
  have ne2 : ∀ i : Int, ¬ (decide (V.int y = V.int i)) = true → y ≠ i := fun i h z => h (decide_eq_true (congrArg V.int z))
  unfold mostOf at q e
  refine ⟨_, rfl, rfl, _, rfl, ite2 (fun c => ?_) (fun c0 => ?_)⟩
  · have := ne _ c
    rw [if_pos this] at q e
    exact ⟨_, rfl, z, rfl, fun hz H' p as sm np nas hL => q hz _ H' sm, e⟩
  rw [if_neg (ne2 _ c0)] at q e
  refine ⟨_, rfl, rfl, _, rfl, ite2 (fun c => ?_) (fun c1 => ?_)⟩
  · have := ne _ c
    rw [if_pos this] at q e
    exact ⟨_, rfl, z, rfl, fun hz H' p as sm np _ _ => q hz _ H' sm, e⟩
  rw [if_neg (ne2 _ c1)] at q e
  refine ⟨_, rfl, rfl, _, rfl, ite2 (fun c => ?_) (fun c2 => ?_)⟩
  · have := ne _ c
    rw [if_pos this] at q e
    exact ⟨_, rfl, z, rfl, fun hz => ⟨(by show 1 ≤ sizeLine; decide), fun p np => q hz _ _ (same_new np _)⟩, e⟩
  rw [if_neg (ne2 _ c2)] at q e
  exact ⟨_, rfl, z, rfl, fun hz H' p sm np _ => q hz _ H' sm, e⟩

end

section
variable {P : Program} {w : World} {K : PySem.W.Frag} {mg : Str → Option Value} {base : Heap}
theorem sc_law_met : FnScope ["way", "coins", "which", "e"] ["way", "coins"] (defScope s_law_met) := ⟨rfl, rfl, rfl, by decide +kernel, rfl, by decide +kernel, by decide +kernel⟩
def sp_law_met : Sp := fun vs H Q _ => ∃ y z : Int, vs = [.int y, .int z] ∧ ∀ H', Same H H' → Q (.int (if 1 ≤ z ∧ z ≤ mostOf y then -1 else 3)) H'
theorem ok_law_met (T : Txt K mg) : Cal P w K mg base CX0 24 "_law_met" ["way", "coins"] sp_law_met := by
  have C_law_asked := ok_law_asked (P := P) (w := w) (base := base) T
  refine cal_mk T.d_law_met sc_law_met ?_ (fun _ _ _ _ _ _ us hl => match us, hl with | [_, _], _ => rfl) (fun f cdv A outer s H vs Q E hr h => ?_)
  · intro vs H Q E h
    obtain ⟨y, z, rfl, _⟩ := h
    rfl
  obtain ⟨y, z, rfl, q⟩ := h
  refine ⟨_, (pss_cons (ps_set (i := 2) sc_law_met.nd rfl (Or.inl rfl) (pe_un un_neg pe_int))
      (pss_cons (L2N.ps_try_as (i := 3) rfl rfl sc_law_met.nd rfl rfl ⟨rfl, by decide, .inl T.g_PileError⟩ takes_no (fun W pn xe tk _ => (pss_one (ps_expr (pe_callX C_law_asked tk (hr.mono (by decide)) (pa_cons (pv 0) (pa_cons (pv 1) pa_nil))))))
      (fun a oe cls d pn hz hf => (pss_one (ps_set (i := 2) sc_law_met.nd rfl (Or.inl rfl) (pe_callP (ok_law_which (P := P) (w := w) (base := base) T hz hf) (roomH_suite (hr.mono (by decide)) _) (hot_suite hz hf) (List.mem_cons_self ..) (pa_cons (pv 3) pa_nil))))))
      (pss_one (ps_ret (pv 2))))), ?_⟩
  refine ⟨1, rfl, _, rfl, _, rfl, y, z, rfl, fun hz v H' sm => ?_, fun no => ?_⟩
  · rw [if_pos hz] at q
    exact ⟨_, rfl, q H' sm⟩
  · rw [if_neg no] at q
    have key : ∀ H', Same H H' → Q (.int ((3 : Nat) : Int)) H' := q
    refine ⟨true, (T.xc "NoNumber" (by decide)).pe, fun _ x nx => ?_, fun z => by cases z⟩
    refine ⟨_, rfl, 3, "NoNumber", rfl, rfl, rfl, rfl, fun H5 sm5 => ?_⟩
    exact ⟨_, rfl, key H5 sm5⟩

end

section
variable {P : Program} {w : World} {K : PySem.W.Frag} {mg : Str → Option Value} {base : Heap}
theorem sc_law_turns_met : FnScope ["piles", "turns", "which", "e"] ["piles", "turns"] (defScope s_law_turns_met) := ⟨rfl, rfl, rfl, by decide +kernel, rfl, by decide +kernel, by decide +kernel⟩
def sp_law_turns_met : Sp := fun vs H Q _ => ∃ (a : Addr) (ns : List Int) (n : Nat) (z : Int), vs = [.ref a, .int z] ∧ IL H a ns ∧ IsSet n ns ∧ 1 ≤ n ∧ n ≤ 100 ∧ ∀ H', Same H H' → Q (.int (if 0 ≤ z ∧ z ≤ 10 ^ 29 then -1 else 3)) H'
theorem ok_law_turns_met (T : Txt K mg) : Cal P w K mg base CX0 4 "_law_turns_met" ["piles", "turns"] sp_law_turns_met := by
  have C_after := ok_after (P := P) (w := w) (base := base) T
  refine cal_mk T.d_law_turns_met sc_law_turns_met ?_ (fun _ _ _ _ _ _ us hl => match us, hl with | [_, _], _ => rfl) (fun f cdv A outer s H vs Q E hr h => ?_)
  · intro vs H Q E h
    obtain ⟨a, ns, n, z, rfl, _⟩ := h
    rfl
  obtain ⟨a, ns, n, z, rfl, hS, hset, h1, h2, q⟩ := h
  refine ⟨_, (pss_cons (ps_set (i := 2) sc_law_turns_met.nd rfl (Or.inl rfl) (pe_un un_neg pe_int))
      (pss_cons (L2N.ps_try_as (i := 3) rfl rfl sc_law_turns_met.nd rfl rfl ⟨rfl, by decide, .inl T.g_PileError⟩ takes_no (fun W pn xe tk _ => (pss_one (ps_expr (pe_callX C_after tk (hr.mono (by decide)) (pa_cons (pv 0) (pa_cons (pv 1) pa_nil))))))
      (fun a oe cls d pn hz hf => (pss_one (ps_set (i := 2) sc_law_turns_met.nd rfl (Or.inl rfl) (pe_callP (ok_law_which (P := P) (w := w) (base := base) T hz hf) (roomH_suite (hr.mono (by decide)) _) (hot_suite hz hf) (List.mem_cons_self ..) (pa_cons (pv 3) pa_nil))))))
      (pss_one (ps_ret (pv 2))))), ?_⟩
  refine ⟨1, rfl, _, rfl, _, rfl, a, ns, n, z, rfl, hS, hset, h1, h2, fun hz H' p sm np ep => ?_, fun no => ?_⟩
  · rw [if_pos hz] at q
    exact ⟨_, rfl, q H' sm⟩
  · rw [if_neg no] at q
    have key : ∀ H', Same H H' → Q (.int ((3 : Nat) : Int)) H' := q
    refine ⟨true, (T.xc "NoNumber" (by decide)).pe, fun _ x nx => ?_, fun z => by cases z⟩
    refine ⟨_, rfl, 3, "NoNumber", rfl, rfl, rfl, rfl, fun H5 sm5 => ?_⟩
    exact ⟨_, rfl, key H5 sm5⟩

end

section
variable {P : Program} {w : World} {K : PySem.W.Frag} {mg : Str → Option Value} {base : Heap}
theorem sc_law : FnScope ["script", "far", "way", "most", "coins", "piles", "turns"] ["script"] (defScope s_law) := ⟨rfl, rfl, rfl, by decide +kernel, rfl, by decide +kernel, by decide +kernel⟩
theorem most_at {i : Nat} (h : i < 4) : [V.int 18, V.int 36, V.int 2000, V.int 18][i]? = some (.int (mostOf i)) := by
  rcases (show i = 0 ∨ i = 1 ∨ i = 2 ∨ i = 3 by omega) with rfl | rfl | rfl | rfl <;> rfl
theorem most_pos (y : Int) : 18 ≤ mostOf y ∧ mostOf y ≤ 2000 := by
  unfold mostOf
  split
  · omega
  · split
    · omega
    · split <;> omega
theorem ok_law_at (T : Txt K mg) {f : Addr} {fd : FuncData} (F : FunD K "law" "law" (defArgs s_law) (defBody s_law) (defScope s_law) [] [] f fd) : FnOk P w K mg base CX0 25 f fd ["script"] (spLaw K) := by
  have C_law_cell := ok_law_cell (P := P) (w := w) (base := base) T
  have C_law_met := ok_law_met (P := P) (w := w) (base := base) T
  have C_law_setting := ok_law_setting (P := P) (w := w) (base := base) T
  have C_law_turns_met := ok_law_turns_met (P := P) (w := w) (base := base) T
  refine F.ok sc_law (fun vs H Q E h => ?_) (fun cdv A outer s H vs Q E hr h => ?_)
  · obtain ⟨a, ns, rfl, _⟩ := h
    rfl
  obtain ⟨a, ns, rfl, hS, hlen, q⟩ := h
  refine ⟨_, PSs.nox ((pss_cons (ps_set (i := 1) sc_law.nd rfl (Or.inl rfl) (pe_op op_add pe_int (pe_op op_mod (pe_callF C_law_cell (hr.mono (by decide)) (pa_cons (pv 0) (pa_cons pe_int pa_nil))) (pe_op op_pow pe_int pe_int))))
      (pss_cons (ps_for PassesOwn.never rfl (pi_range1 (by rfl) T.m_range (pa_cons pe_int pa_nil)) (pg_name (i := 2) sc_law.nd rfl (Or.inl rfl))
      (pss_cons (ps_set (i := 3) sc_law.nd rfl (Or.inl rfl) (pe_ix ix_list (pe_lst (pa_cons pe_int (pa_cons pe_int (pa_cons pe_int (pa_cons pe_int pa_nil))))) (pv 2) (fun _ _ => rfl)))
      (pss_one (ps_for PassesOwn.never rfl (pi_list (pe_lst (pa_cons pe_int (pa_cons (pe_un un_neg (pv 1)) (pa_cons (pe_op op_add (pv 3) pe_int) (pa_cons (pe_op op_add (pv 3) (pv 1)) pa_nil)))))) (pg_name (i := 4) sc_law.nd rfl (Or.inl rfl))
      (pss_one (ps_if (pt_cmpR op_ne (pe_callF C_law_met (hr.mono (by decide)) (pa_cons (pv 2) (pa_cons (pv 4) pa_nil))) pe_int (nomark _))
      (pss_one (ps_ret pe_bl)) pss_nil))))))
      (pss_cons (ps_set (i := 2) sc_law.nd rfl (Or.inl rfl) (pe_op op_mod (pe_callF C_law_cell (hr.mono (by decide)) (pa_cons (pv 0) (pa_cons pe_int pa_nil))) pe_int))
      (pss_cons (ps_if (PW.pt (pw_or (pt_cmpR op_ne (pe_callF C_law_met (hr.mono (by decide)) (pa_cons (pv 2) (pa_cons pe_int pa_nil))) (pe_un un_neg pe_int) (nomark _)) (pw_or1 (pt_cmpR op_ne (pe_callF C_law_met (hr.mono (by decide)) (pa_cons pe_int (pa_cons pe_int pa_nil))) (pe_un un_neg pe_int) (nomark _)))))
      (pss_one (ps_ret pe_bl)) pss_nil)
      (pss_cons (ps_if (PW.pt (pw_and (pt_cmpR op_eq (pe_op op_mod (pe_op op_fdiv (pe_callF C_law_cell (hr.mono (by decide)) (pa_cons (pv 0) (pa_cons pe_int pa_nil))) pe_int) pe_int) pe_int (nomark _)) (pw_and1 (pt_cmpR op_ne (pe_callF C_law_met (hr.mono (by decide)) (pa_cons (pv 2) (pa_cons (pe_ix ix_list (pe_lst (pa_cons pe_int (pa_cons pe_int (pa_cons pe_int (pa_cons pe_int pa_nil))))) (pv 2) (fun _ _ => rfl)) pa_nil))) (pe_un un_neg pe_int) (nomark _)))))
      (pss_one (ps_ret pe_bl)) pss_nil)
      (pss_cons (ps_set (i := 5) sc_law.nd rfl (Or.inl rfl) (pe_callF C_law_setting (hr.mono (by decide)) (pa_cons (pv 0) (pa_cons pe_int (pa_cons (pe_op op_add pe_int (pe_op op_mod (pe_callF C_law_cell (hr.mono (by decide)) (pa_cons (pv 0) (pa_cons pe_int pa_nil))) pe_int)) pa_nil)))))
      (pss_cons (ps_for PassesOwn.never rfl (pi_list (pe_lst (pa_cons (pe_un un_neg pe_int) (pa_cons (pe_un un_neg (pv 1)) (pa_cons (pe_op op_add (pe_op op_pow pe_int pe_int) pe_int) (pa_cons (pe_op op_add (pe_op op_pow pe_int pe_int) (pv 1)) pa_nil)))))) (pg_name (i := 6) sc_law.nd rfl (Or.inl rfl))
      (pss_one (ps_if (pt_cmpR op_ne (pe_callF C_law_turns_met (hr.mono (by decide)) (pa_cons (pe_callTy (T := "list") call_list_of (by rfl) T.m_list (by decide +kernel) (pa_cons (pv 5) pa_nil)) (pa_cons (pv 6) pa_nil))) pe_int (nomark _))
      (pss_one (ps_ret pe_bl)) pss_nil)))
      (pss_one (ps_ret (pe_and (pe_cmpR op_eq (pe_callF C_law_turns_met (hr.mono (by decide)) (pa_cons (pe_callTy (T := "list") call_list_of (by rfl) T.m_list (by decide +kernel) (pa_cons (pv 5) pa_nil)) (pa_cons pe_int pa_nil))) (pe_un un_neg pe_int) (nomark _)) (pe_one (pe_cmpR op_eq (pe_callF C_law_turns_met (hr.mono (by decide)) (pa_cons (pe_callTy (T := "list") call_list_of (by rfl) T.m_list (by decide +kernel) (pa_cons (pv 5) pa_nil)) (pa_cons (pe_op op_pow pe_int pe_int) pa_nil))) (pe_un un_neg pe_int) (nomark _)))))))))))))), ?_⟩
  refine ⟨_, rfl, a, ns, 0, rfl, hS, by omega, fun z => ?_⟩
  refine ⟨_, _, rfl, rfl, (by refine ⟨by decide, by decide, by decide⟩), _, _, rfl, rfl, (by show (0 : Int) < 10 ^ (29 : Int).toNat; decide), _, _, rfl, rfl, ?_⟩
  have hF := Int.emod_nonneg z (show (10 ^ (29 : Int).toNat : Int) ≠ 0 by decide)
  obtain ⟨F, hFe, hF1⟩ : ∃ F : Int, (1 : Int) + z % 10 ^ (29 : Int).toNat = F ∧ 1 ≤ F := ⟨_, rfl, by omega⟩
  refine ⟨4, rfl, by omega, by omega, for_range (lo := 0) (n := (4 : Int).toNat) (fun i σ H' => ∃ y2 y3 y4 : Option V, σ = [some (.ref a), some (.int F), y2, y3, y4, none, none] ∧ Same H H') ⟨none, none, none, congrArg (fun v => [some (V.ref a), some (V.int v), none, none, none, none, none]) hFe, Same.refl H⟩ ?_ ?_⟩
  · intro i σ H1 hi h
    obtain ⟨y2, y3, y4, rfl, sm⟩ := h
    have hi : i < 4 := hi
    refine ⟨(by show 4 ≤ sizeLine; decide), fun l nl => ?_⟩
    have sl := sm.trans (same_new nl (.lst [V.int 18, V.int 36, V.int 2000, V.int 18]))
    refine ⟨_, rfl, l, _, _, .int (mostOf i), rfl, rfl, sq upd_same, at_of (j := i) (by omega) (most_at hi), ?_⟩
    generalize upd H1 l (.lst [V.int 18, V.int 36, V.int 2000, V.int 18]) = H2 at *
    have hmp := most_pos i
    refine ⟨_, rfl, F, rfl, _, rfl, _, _, rfl, rfl, _, rfl, _, rfl, _, _, rfl, rfl, (by show 4 ≤ sizeLine; decide), fun L nL => ?_⟩
    have sL := sl.trans (same_new nL (.lst [V.int 0, V.int (-F), V.int (mostOf i + 1), V.int (mostOf i + F)]))
    have eL : (upd H2 L (.lst [V.int 0, V.int (-F), V.int (mostOf i + 1), V.int (mostOf i + F)])) L = some (.lst [V.int 0, V.int (-F), V.int (mostOf i + 1), V.int (mostOf i + F)]) := upd_same
    refine ⟨L, rfl, ⟨_, sq eL⟩, for_list (K := K) (a := L) (xs := [V.int 0, V.int (-F), V.int (mostOf i + 1), V.int (mostOf i + F)]) (fun j σ H' => ∃ y4 : Option V, σ = [some (.ref a), some (.int F), some (.int (0 + (i : Int))), some (.int (mostOf i)), y4, none, none] ∧ Same H H' ∧ H' L = some (.lst [V.int 0, V.int (-F), V.int (mostOf i + 1), V.int (mostOf i + F)])) ⟨y4, rfl, sL, eL⟩ (fun j σ H' _ h => by obtain ⟨_, _, _, e⟩ := h; exact sq e) ?_ ?_⟩
    · intro j x σ H' hx h
      obtain ⟨y4, rfl, sm, eL⟩ := h
      obtain ⟨z, rfl, hz⟩ : ∃ z : Int, x = .int z ∧ ¬ (1 ≤ z ∧ z ≤ mostOf (0 + (i : Int))) := by
        rw [Int.zero_add]
        have hj : j < 4 := (List.getElem?_eq_some_iff.mp hx).1
        rcases (show j = 0 ∨ j = 1 ∨ j = 2 ∨ j = 3 by omega) with rfl | rfl | rfl | rfl
        · exact ⟨0, (Option.some.inj hx).symm, by omega⟩
        · exact ⟨-F, (Option.some.inj hx).symm, by omega⟩
        · exact ⟨mostOf i + 1, (Option.some.inj hx).symm, by omega⟩
        · exact ⟨mostOf i + F, (Option.some.inj hx).symm, by omega⟩
      refine ⟨_, rfl, _, rfl, 0 + (i : Int), z, rfl, fun H3 sm3 => ⟨rfl, _, rfl, ite2 (fun c => absurd c (by rw [if_neg hz, decide_eq_true rfl]; decide)) (fun _ => ?_)⟩⟩
      exact ⟨_, rfl, sm.trans sm3, sm3 _ _ eL⟩
    · intro σ H' h
      obtain ⟨y4, rfl, sm, _⟩ := h
      exact ⟨_, _, _, rfl, sm⟩
  · intro σ H1 h
    obtain ⟨y2, y3, y4, rfl, sm1⟩ := h
    refine ⟨_, rfl, a, ns, 1, rfl, sm1.seq hS, by omega, fun z2 => ⟨_, _, rfl, rfl, (by show (0 : Int) < 4; decide), ?_⟩⟩
    obtain ⟨y, ey, hy⟩ : ∃ y : Nat, z2 % 4 = (y : Int) ∧ y < 4 := by
      have h1 := Int.emod_nonneg z2 (show (4 : Int) ≠ 0 by decide)
      have h2 := Int.emod_lt_of_pos z2 (show (0 : Int) < 4 by decide)
      exact ⟨(z2 % 4).toNat, by omega, by omega⟩
    have hmp := most_pos y
    have one : 1 ≤ (1 : Int) ∧ (1 : Int) ≤ mostOf y := ⟨Int.le_refl 1, by omega⟩
    have two : 1 ≤ (2000 : Int) ∧ (2000 : Int) ≤ mostOf 2 := ⟨by decide, by decide⟩
    refine ⟨_, rfl, y, 1, congrArg (fun z => [V.int z, V.int 1]) ey, fun H2 sm2 => ⟨1, rfl, rfl, _, rfl, ite2 (fun c => absurd c (by rw [if_pos one, decide_eq_true rfl]; decide)) (fun _ => ?_)⟩⟩
    refine ⟨2, 2000, rfl, fun H3 sm3 => ⟨1, rfl, rfl, _, rfl, ite2 (fun c => absurd c (by rw [if_pos two, decide_eq_true rfl]; decide)) (fun _ => ?_)⟩⟩
    have s3 := (sm1.trans sm2).trans sm3
    clear sm1 sm2 sm3
    refine ⟨_, rfl, a, ns, 1, rfl, s3.seq hS, by omega, fun z4 => ⟨_, _, rfl, rfl, ⟨by decide, by decide⟩, _, _, rfl, rfl, (by show (0 : Int) < 8; decide), rfl, _, rfl, ite2 (fun _ => ?w1) (fun _ => ?w2)⟩⟩
    case' w1 =>
      refine ⟨_, rfl, (by show 4 ≤ sizeLine; decide), fun l nl => ?_⟩
      have s4 := s3.trans (same_new nl (.lst [V.int 18, V.int 36, V.int 2000, V.int 18]))
      have all : 1 ≤ mostOf y ∧ mostOf y ≤ mostOf y := ⟨by omega, Int.le_refl _⟩
      refine ⟨_, rfl, l, _, _, .int (mostOf y), rfl, rfl, sq upd_same, at_of (j := y) ey (most_at hy), y, mostOf y, congrArg (fun z => [V.int z, V.int (mostOf y)]) ey, fun HX sm5 => ⟨1, rfl, rfl, _, rfl, ite2 (fun c => absurd c (by rw [if_pos all, decide_eq_true rfl]; decide)) (fun _ => ?_)⟩⟩
      have sX := s4.trans sm5
      clear s4 sm5 nl
    case' w2 =>
      have sX := s3
      generalize H3 = HX at *
    all_goals
      refine ⟨_, rfl, _, rfl, a, ns, 7, rfl, sX.seq hS, by omega, fun z5 => ⟨_, _, rfl, rfl, (by show (0 : Int) < 100; decide), _, _, rfl, rfl, ?_⟩⟩
      obtain ⟨n, en, n1, n2⟩ := nat_of (z := z5) (m := 100) (by decide)
      refine ⟨a, ns, 2, n, congrArg (fun z => [V.ref a, V.int 2, V.int z]) en, sX.seq hS, by omega, n1, by omega, fun ps hps H5 p sm5 ep => ?_⟩
      refine ⟨1, rfl, _, rfl, F, rfl, _, _, rfl, rfl, (by refine ⟨by decide, by decide, by decide⟩), _, _, rfl, rfl, _, _, rfl, rfl, (by refine ⟨by decide, by decide, by decide⟩), _, rfl, _, _, rfl, rfl, (by show 4 ≤ sizeLine; decide), fun L nL => ?_⟩
      have hT : (10 ^ (29 : Int).toNat : Int) = 10 ^ 29 := rfl
      have sL := sm5.trans (same_new nL (.lst [V.int (-1), V.int (-F), V.int (10 ^ (29 : Int).toNat + 1), V.int (10 ^ (29 : Int).toNat + F)]))
      have eL : (upd H5 L (.lst [V.int (-1), V.int (-F), V.int (10 ^ (29 : Int).toNat + 1), V.int (10 ^ (29 : Int).toNat + F)])) L = some (.lst [V.int (-1), V.int (-F), V.int (10 ^ (29 : Int).toNat + 1), V.int (10 ^ (29 : Int).toNat + F)]) := upd_same
      have ep5 : IL (upd H5 L (.lst [V.int (-1), V.int (-F), V.int (10 ^ (29 : Int).toNat + 1), V.int (10 ^ (29 : Int).toNat + F)])) p ps := same_new nL _ _ _ ep
      refine ⟨L, rfl, ⟨_, sq eL⟩, for_list (K := K) (a := L) (xs := [V.int (-1), V.int (-F), V.int (10 ^ (29 : Int).toNat + 1), V.int (10 ^ (29 : Int).toNat + F)]) (fun j σ H' => ∃ y6 : Option V, σ = [some (.ref a), some (.int F), some (.int (z2 % 4)), y3, y4, some (.ref p), y6] ∧ IL H' p ps ∧ H' L = some (.lst [V.int (-1), V.int (-F), V.int (10 ^ (29 : Int).toNat + 1), V.int (10 ^ (29 : Int).toNat + F)])) ⟨none, rfl, ep5, eL⟩ (fun j σ H' _ h => by obtain ⟨_, _, _, e⟩ := h; exact sq e) ?_ ?_⟩
      · intro j x σ H' hx h
        obtain ⟨y6, rfl, ep, eL⟩ := h
        obtain ⟨z, rfl, hz⟩ : ∃ z : Int, x = .int z ∧ ¬ (0 ≤ z ∧ z ≤ 10 ^ 29) := by
          have hj : j < 4 := (List.getElem?_eq_some_iff.mp hx).1
          rcases (show j = 0 ∨ j = 1 ∨ j = 2 ∨ j = 3 by omega) with rfl | rfl | rfl | rfl
          · exact ⟨-1, (Option.some.inj hx).symm, by omega⟩
          · exact ⟨-F, (Option.some.inj hx).symm, by omega⟩
          · exact ⟨10 ^ (29 : Int).toNat + 1, (Option.some.inj hx).symm, by rw [hT]; omega⟩
          · exact ⟨10 ^ (29 : Int).toNat + F, (Option.some.inj hx).symm, by rw [hT]; omega⟩
        refine ⟨_, rfl, p, _, rfl, .inl (sq ep), fun c nc => ?_⟩
        have sc := same_new nc (.lst (ps.map V.int))
        refine ⟨_, rfl, c, ps, n, z, rfl, upd_same, hps, n1, by omega, fun H3 sm3 => ⟨rfl, _, rfl, ite2 (fun c => absurd c (by rw [if_neg hz, decide_eq_true rfl]; decide)) (fun _ => ?_)⟩⟩
        exact ⟨_, rfl, sm3 _ _ (sc _ _ ep), sm3 _ _ (sc _ _ eL)⟩
      · intro σ H' h
        obtain ⟨y6, rfl, ep, _⟩ := h
        refine ⟨_, rfl, p, _, rfl, .inl (sq ep), fun c nc => ?_⟩
        have sc := same_new nc (.lst (ps.map V.int))
        have z0 : 0 ≤ (0 : Int) ∧ (0 : Int) ≤ 10 ^ 29 := ⟨by decide, by decide⟩
        have z1 : 0 ≤ (10 ^ (29 : Int).toNat : Int) ∧ (10 ^ (29 : Int).toNat : Int) ≤ 10 ^ 29 := ⟨by decide, by decide⟩
        refine ⟨c, ps, n, 0, rfl, upd_same, hps, n1, by omega, fun H3 sm3 => ⟨1, rfl, rfl, true, congrArg V.bl (by rw [if_pos z0]; exact decide_eq_true rfl), ?_⟩⟩
        refine ⟨_, rfl, p, _, rfl, .inl (sq (sm3 _ _ (sc _ _ ep))), fun c nc => ?_⟩
        refine ⟨_, _, rfl, rfl, (by refine ⟨by decide, by decide, by decide⟩), c, ps, n, _, rfl, upd_same, hps, n1, by omega, fun H4 sm4 => ⟨1, rfl, rfl, ?_⟩⟩
        rw [if_pos z1, show decide (V.int (-1) = V.int (-1)) = true from decide_eq_true rfl]
        exact q _

end

/-! ### the head: facts by names, the run -/
def dd_is_setting : He.DefD := ⟨("is_setting", none), "is_setting", "is_setting", defArgs s_is_setting, defBody s_is_setting, defScope s_is_setting, [], []⟩
def dd_must_be : He.DefD := ⟨("must_be", none), "must_be", "must_be", defArgs s_must_be, defBody s_must_be, defScope s_must_be, [], []⟩
def dd_turned_by : He.DefD := ⟨("turned_by", none), "turned_by", "turned_by", defArgs s_turned_by, defBody s_turned_by, defScope s_turned_by, [], []⟩
def dd_after : He.DefD := ⟨("after", none), "after", "after", defArgs s_after, defBody s_after, defScope s_after, [], []⟩
def dd_stair_of : He.DefD := ⟨("stair_of", none), "stair_of", "stair_of", defArgs s_stair_of, defBody s_stair_of, defScope s_stair_of, [], []⟩
def dd_marks_by : He.DefD := ⟨("marks_by", none), "marks_by", "marks_by", defArgs s_marks_by, defBody s_marks_by, defScope s_marks_by, [], []⟩
def dd_setting_by : He.DefD := ⟨("setting_by", none), "setting_by", "setting_by", defArgs s_setting_by, defBody s_setting_by, defScope s_setting_by, [], []⟩
def dd_ring_by : He.DefD := ⟨("ring_by", none), "ring_by", "ring_by", defArgs s_ring_by, defBody s_ring_by, defScope s_ring_by, [], []⟩
def dd_must_count : He.DefD := ⟨("must_count", none), "must_count", "must_count", defArgs s_must_count, defBody s_must_count, defScope s_must_count, [], []⟩
def dd_settings_by : He.DefD := ⟨("settings_by", none), "settings_by", "settings_by", defArgs s_settings_by, defBody s_settings_by, defScope s_settings_by, [], []⟩
def dd_settings_of : He.DefD := ⟨("settings_of", none), "settings_of", "settings_of", defArgs s_settings_of, defBody s_settings_of, defScope s_settings_of, [], []⟩
def dd_chosen : He.DefD := ⟨("chosen", none), "chosen", "chosen", defArgs s_chosen, defBody s_chosen, defScope s_chosen, [], []⟩
def dd_common : He.DefD := ⟨("common", none), "common", "common", defArgs s_common, defBody s_common, defScope s_common, [], []⟩
def dd_rings_many : He.DefD := ⟨("rings_many", none), "rings_many", "rings_many", defArgs s_rings_many, defBody s_rings_many, defScope s_rings_many, [], []⟩
def dd_all_marks : He.DefD := ⟨("all_marks", none), "all_marks", "all_marks", defArgs s_all_marks, defBody s_all_marks, defScope s_all_marks, [], []⟩
def dd_rings_of : He.DefD := ⟨("rings_of", none), "rings_of", "rings_of", defArgs s_rings_of, defBody s_rings_of, defScope s_rings_of, [], []⟩
def dd_drawn_in : He.DefD := ⟨("drawn_in", none), "drawn_in", "drawn_in", defArgs s_drawn_in, defBody s_drawn_in, defScope s_drawn_in, [], []⟩
def dd_law_cell : He.DefD := ⟨("_law_cell", none), "_law_cell", "_law_cell", defArgs s_law_cell, defBody s_law_cell, defScope s_law_cell, [], []⟩
def dd_law_next : He.DefD := ⟨("_law_next", none), "_law_next", "_law_next", defArgs s_law_next, defBody s_law_next, defScope s_law_next, [], []⟩
def dd_law_fallen : He.DefD := ⟨("_law_fallen", none), "_law_fallen", "_law_fallen", defArgs s_law_fallen, defBody s_law_fallen, defScope s_law_fallen, [], []⟩
def dd_law_turned : He.DefD := ⟨("_law_turned", none), "_law_turned", "_law_turned", defArgs s_law_turned, defBody s_law_turned, defScope s_law_turned, [], []⟩
def dd_law_stair : He.DefD := ⟨("_law_stair", none), "_law_stair", "_law_stair", defArgs s_law_stair, defBody s_law_stair, defScope s_law_stair, [], []⟩
def dd_law_by_marks : He.DefD := ⟨("_law_by_marks", none), "_law_by_marks", "_law_by_marks", defArgs s_law_by_marks, defBody s_law_by_marks, defScope s_law_by_marks, [], []⟩
def dd_law_drawn_marks : He.DefD := ⟨("_law_drawn_marks", none), "_law_drawn_marks", "_law_drawn_marks", defArgs s_law_drawn_marks, defBody s_law_drawn_marks, defScope s_law_drawn_marks, [], []⟩
def dd_law_elder : He.DefD := ⟨("_law_elder", none), "_law_elder", "_law_elder", defArgs s_law_elder, defBody s_law_elder, defScope s_law_elder, [], []⟩
def dd_law_drawn_piles : He.DefD := ⟨("_law_drawn_piles", none), "_law_drawn_piles", "_law_drawn_piles", defArgs s_law_drawn_piles, defBody s_law_drawn_piles, defScope s_law_drawn_piles, [], []⟩
def dd_law_setting : He.DefD := ⟨("_law_setting", none), "_law_setting", "_law_setting", defArgs s_law_setting, defBody s_law_setting, defScope s_law_setting, [], []⟩
def dd_law_which : He.DefD := ⟨("_law_which", none), "_law_which", "_law_which", defArgs s_law_which, defBody s_law_which, defScope s_law_which, [], []⟩
def dd_law_asked : He.DefD := ⟨("_law_asked", none), "_law_asked", "_law_asked", defArgs s_law_asked, defBody s_law_asked, defScope s_law_asked, [], []⟩
def dd_law_met : He.DefD := ⟨("_law_met", none), "_law_met", "_law_met", defArgs s_law_met, defBody s_law_met, defScope s_law_met, [], []⟩
def dd_law_turns_met : He.DefD := ⟨("_law_turns_met", none), "_law_turns_met", "_law_turns_met", defArgs s_law_turns_met, defBody s_law_turns_met, defScope s_law_turns_met, [], []⟩
def dd_law : He.DefD := ⟨("law", none), "law", "law", defArgs s_law, defBody s_law, defScope s_law, [], []⟩
def fn : List He.DefD := [dd_is_setting, dd_must_be, dd_turned_by, dd_after, dd_stair_of, dd_marks_by, dd_setting_by, dd_ring_by, dd_must_count, dd_settings_by, dd_settings_of, dd_chosen, dd_common, dd_rings_many, dd_all_marks, dd_rings_of, dd_drawn_in, dd_law_cell, dd_law_next, dd_law_fallen, dd_law_turned, dd_law_stair, dd_law_by_marks, dd_law_drawn_marks, dd_law_elder, dd_law_drawn_piles, dd_law_setting, dd_law_which, dd_law_asked, dd_law_met, dd_law_turns_met, dd_law]
def fa : List He.Fa := [.glo "is_setting", .glo "must_be", .glo "turned_by", .glo "after", .glo "stair_of", .glo "marks_by", .glo "setting_by", .glo "ring_by", .glo "must_count", .glo "settings_by", .glo "settings_of", .glo "chosen", .glo "common", .glo "rings_many", .glo "all_marks", .glo "rings_of", .glo "drawn_in", .glo "_law_cell", .glo "_law_next", .glo "_law_fallen", .glo "_law_turned", .glo "_law_stair", .glo "_law_by_marks", .glo "_law_drawn_marks", .glo "_law_elder", .glo "_law_drawn_piles", .glo "_law_setting", .glo "_law_which", .glo "_law_asked", .glo "_law_met", .glo "_law_turns_met", .glo "law", .int "MOST" 100, .int "MOST_TURNS" 100000000000000000000000000000, .free "ValueError", .free "int", .free "isinstance", .free "len", .free "list", .free "min", .free "range", .free "reversed", .free "sorted", .free "sum", .free "tuple"]
abbrev R : PySem.W.OpenRow := PySem.W.OpenLaw.row PySem.Challenge.rw_pilewheel_k17_numbers_out_of_bounds
abbrev hk : PySem.W.Hook := hookXE 4 fa fn excB
def ob (s : PySem.W.SharedT) : AlE := obsXE 4 fa fn excB (HandSHeadRun.getT s)
theorem ob_eq (s : PySem.W.SharedT) : ob s = hk.obs s.abs := obsXE_eq (HandSHeadRun.getT_eq s)
def loose : List PySem.Str := [("PileError" : PySem.Str), ("NoPiles" : PySem.Str), ("NotRound" : PySem.Str), ("NoMarks" : PySem.Str), ("NoNumber" : PySem.Str), ("NoNote" : PySem.Str), ("is_setting" : PySem.Str), ("must_be" : PySem.Str), ("turned_by" : PySem.Str), ("after" : PySem.Str), ("stair_of" : PySem.Str), ("marks_by" : PySem.Str), ("setting_by" : PySem.Str), ("ring_by" : PySem.Str), ("must_count" : PySem.Str), ("settings_by" : PySem.Str), ("settings_of" : PySem.Str), ("chosen" : PySem.Str), ("common" : PySem.Str), ("rings_many" : PySem.Str), ("all_marks" : PySem.Str), ("rings_of" : PySem.Str), ("drawn_in" : PySem.Str), ("_law_cell" : PySem.Str), ("_law_next" : PySem.Str), ("_law_fallen" : PySem.Str), ("_law_turned" : PySem.Str), ("_law_stair" : PySem.Str), ("_law_by_marks" : PySem.Str), ("_law_drawn_marks" : PySem.Str), ("_law_elder" : PySem.Str), ("_law_drawn_piles" : PySem.Str), ("_law_setting" : PySem.Str), ("_law_which" : PySem.Str), ("_law_asked" : PySem.Str), ("_law_met" : PySem.Str), ("_law_turns_met" : PySem.Str), ("MOST" : PySem.Str), ("MOST_TURNS" : PySem.Str)]
theorem run (w : World) : HandSHeadRun.RunEq R (PySem.W.view R.prog [44]) hk ob 4000 loose w := by
  intro os
  kernel_rfl
theorem facts {P : Program} {w : World} {K : PySem.W.Frag} {h : Heap} {mg : Str → Option Value} {f : Addr} (X : K.In h) (G : h.Ns mainGlobals mg) (hfa : mg ("law" : Str) = some (.ref f)) (c : He.SaysD fa fn K) (cx : excB K = true) :
    ∃ fd : FuncData, (∀ (s : Shared) (v : Value), BindsTo s fd ⟨[v], []⟩ [("script", v)]) ∧ ∀ base : Heap, K.In base → base.Ns mainGlobals mg → FnOk P w K mg base CX0 25 f fd ["script"] (spLaw K) := by
  have T : Txt K mg := {
      d_is_setting := by
        obtain ⟨fd, F⟩ := c.def_ 0 (d := dd_is_setting) rfl
        exact ⟨fd, F, He.glo_ok X G (c.fact 0 (f := .glo "is_setting") rfl)⟩,
      d_must_be := by
        obtain ⟨fd, F⟩ := c.def_ 1 (d := dd_must_be) rfl
        exact ⟨fd, F, He.glo_ok X G (c.fact 1 (f := .glo "must_be") rfl)⟩,
      d_turned_by := by
        obtain ⟨fd, F⟩ := c.def_ 2 (d := dd_turned_by) rfl
        exact ⟨fd, F, He.glo_ok X G (c.fact 2 (f := .glo "turned_by") rfl)⟩,
      d_after := by
        obtain ⟨fd, F⟩ := c.def_ 3 (d := dd_after) rfl
        exact ⟨fd, F, He.glo_ok X G (c.fact 3 (f := .glo "after") rfl)⟩,
      d_stair_of := by
        obtain ⟨fd, F⟩ := c.def_ 4 (d := dd_stair_of) rfl
        exact ⟨fd, F, He.glo_ok X G (c.fact 4 (f := .glo "stair_of") rfl)⟩,
      d_marks_by := by
        obtain ⟨fd, F⟩ := c.def_ 5 (d := dd_marks_by) rfl
        exact ⟨fd, F, He.glo_ok X G (c.fact 5 (f := .glo "marks_by") rfl)⟩,
      d_setting_by := by
        obtain ⟨fd, F⟩ := c.def_ 6 (d := dd_setting_by) rfl
        exact ⟨fd, F, He.glo_ok X G (c.fact 6 (f := .glo "setting_by") rfl)⟩,
      d_ring_by := by
        obtain ⟨fd, F⟩ := c.def_ 7 (d := dd_ring_by) rfl
        exact ⟨fd, F, He.glo_ok X G (c.fact 7 (f := .glo "ring_by") rfl)⟩,
      d_must_count := by
        obtain ⟨fd, F⟩ := c.def_ 8 (d := dd_must_count) rfl
        exact ⟨fd, F, He.glo_ok X G (c.fact 8 (f := .glo "must_count") rfl)⟩,
      d_settings_by := by
        obtain ⟨fd, F⟩ := c.def_ 9 (d := dd_settings_by) rfl
        exact ⟨fd, F, He.glo_ok X G (c.fact 9 (f := .glo "settings_by") rfl)⟩,
      d_settings_of := by
        obtain ⟨fd, F⟩ := c.def_ 10 (d := dd_settings_of) rfl
        exact ⟨fd, F, He.glo_ok X G (c.fact 10 (f := .glo "settings_of") rfl)⟩,
      d_chosen := by
        obtain ⟨fd, F⟩ := c.def_ 11 (d := dd_chosen) rfl
        exact ⟨fd, F, He.glo_ok X G (c.fact 11 (f := .glo "chosen") rfl)⟩,
      d_common := by
        obtain ⟨fd, F⟩ := c.def_ 12 (d := dd_common) rfl
        exact ⟨fd, F, He.glo_ok X G (c.fact 12 (f := .glo "common") rfl)⟩,
      d_rings_many := by
        obtain ⟨fd, F⟩ := c.def_ 13 (d := dd_rings_many) rfl
        exact ⟨fd, F, He.glo_ok X G (c.fact 13 (f := .glo "rings_many") rfl)⟩,
      d_all_marks := by
        obtain ⟨fd, F⟩ := c.def_ 14 (d := dd_all_marks) rfl
        exact ⟨fd, F, He.glo_ok X G (c.fact 14 (f := .glo "all_marks") rfl)⟩,
      d_rings_of := by
        obtain ⟨fd, F⟩ := c.def_ 15 (d := dd_rings_of) rfl
        exact ⟨fd, F, He.glo_ok X G (c.fact 15 (f := .glo "rings_of") rfl)⟩,
      d_drawn_in := by
        obtain ⟨fd, F⟩ := c.def_ 16 (d := dd_drawn_in) rfl
        exact ⟨fd, F, He.glo_ok X G (c.fact 16 (f := .glo "drawn_in") rfl)⟩,
      d_law_cell := by
        obtain ⟨fd, F⟩ := c.def_ 17 (d := dd_law_cell) rfl
        exact ⟨fd, F, He.glo_ok X G (c.fact 17 (f := .glo "_law_cell") rfl)⟩,
      d_law_next := by
        obtain ⟨fd, F⟩ := c.def_ 18 (d := dd_law_next) rfl
        exact ⟨fd, F, He.glo_ok X G (c.fact 18 (f := .glo "_law_next") rfl)⟩,
      d_law_fallen := by
        obtain ⟨fd, F⟩ := c.def_ 19 (d := dd_law_fallen) rfl
        exact ⟨fd, F, He.glo_ok X G (c.fact 19 (f := .glo "_law_fallen") rfl)⟩,
      d_law_turned := by
        obtain ⟨fd, F⟩ := c.def_ 20 (d := dd_law_turned) rfl
        exact ⟨fd, F, He.glo_ok X G (c.fact 20 (f := .glo "_law_turned") rfl)⟩,
      d_law_stair := by
        obtain ⟨fd, F⟩ := c.def_ 21 (d := dd_law_stair) rfl
        exact ⟨fd, F, He.glo_ok X G (c.fact 21 (f := .glo "_law_stair") rfl)⟩,
      d_law_by_marks := by
        obtain ⟨fd, F⟩ := c.def_ 22 (d := dd_law_by_marks) rfl
        exact ⟨fd, F, He.glo_ok X G (c.fact 22 (f := .glo "_law_by_marks") rfl)⟩,
      d_law_drawn_marks := by
        obtain ⟨fd, F⟩ := c.def_ 23 (d := dd_law_drawn_marks) rfl
        exact ⟨fd, F, He.glo_ok X G (c.fact 23 (f := .glo "_law_drawn_marks") rfl)⟩,
      d_law_elder := by
        obtain ⟨fd, F⟩ := c.def_ 24 (d := dd_law_elder) rfl
        exact ⟨fd, F, He.glo_ok X G (c.fact 24 (f := .glo "_law_elder") rfl)⟩,
      d_law_drawn_piles := by
        obtain ⟨fd, F⟩ := c.def_ 25 (d := dd_law_drawn_piles) rfl
        exact ⟨fd, F, He.glo_ok X G (c.fact 25 (f := .glo "_law_drawn_piles") rfl)⟩,
      d_law_setting := by
        obtain ⟨fd, F⟩ := c.def_ 26 (d := dd_law_setting) rfl
        exact ⟨fd, F, He.glo_ok X G (c.fact 26 (f := .glo "_law_setting") rfl)⟩,
      d_law_which := by
        obtain ⟨fd, F⟩ := c.def_ 27 (d := dd_law_which) rfl
        exact ⟨fd, F, He.glo_ok X G (c.fact 27 (f := .glo "_law_which") rfl)⟩,
      d_law_asked := by
        obtain ⟨fd, F⟩ := c.def_ 28 (d := dd_law_asked) rfl
        exact ⟨fd, F, He.glo_ok X G (c.fact 28 (f := .glo "_law_asked") rfl)⟩,
      d_law_met := by
        obtain ⟨fd, F⟩ := c.def_ 29 (d := dd_law_met) rfl
        exact ⟨fd, F, He.glo_ok X G (c.fact 29 (f := .glo "_law_met") rfl)⟩,
      d_law_turns_met := by
        obtain ⟨fd, F⟩ := c.def_ 30 (d := dd_law_turns_met) rfl
        exact ⟨fd, F, He.glo_ok X G (c.fact 30 (f := .glo "_law_turns_met") rfl)⟩,
      c_MOST := by
        obtain ⟨t, e⟩ := He.int_ok X G (c.fact 32 (f := .int "MOST" 100) rfl)
        exact ⟨_, e, t, rfl⟩,
      c_MOST_TURNS := by
        obtain ⟨t, e⟩ := He.int_ok X G (c.fact 33 (f := .int "MOST_TURNS" 100000000000000000000000000000) rfl)
        exact ⟨_, e, t, rfl⟩,
      m_ValueError := He.free_ok X G (c.fact 34 (f := .free "ValueError") rfl),
      m_int := He.free_ok X G (c.fact 35 (f := .free "int") rfl),
      m_isinstance := He.free_ok X G (c.fact 36 (f := .free "isinstance") rfl),
      m_len := He.free_ok X G (c.fact 37 (f := .free "len") rfl),
      m_list := He.free_ok X G (c.fact 38 (f := .free "list") rfl),
      m_min := He.free_ok X G (c.fact 39 (f := .free "min") rfl),
      m_range := He.free_ok X G (c.fact 40 (f := .free "range") rfl),
      m_reversed := He.free_ok X G (c.fact 41 (f := .free "reversed") rfl),
      m_sorted := He.free_ok X G (c.fact 42 (f := .free "sorted") rfl),
      m_sum := He.free_ok X G (c.fact 43 (f := .free "sum") rfl),
      m_tuple := He.free_ok X G (c.fact 44 (f := .free "tuple") rfl),
      xc := fun x hx => xcls_of X G (List.all_eq_true.mp (He.ba cx).2 x hx),
      g_PileError := He.glo_ok X G (He.ba cx).1 }
  obtain ⟨fd, F⟩ := c.def_ 31 (d := dd_law) rfl
  have e := hfa.symm.trans (He.glo_ok X G (c.fact 31 (f := .glo "law") rfl))
  cases e
  have b := FunD.bindsA (ps := ["script"]) F fun _ _ _ _ _ _ us hl => match us, hl with | [_], _ => rfl
  exact ⟨fd, fun s v => b s [v] rfl, fun base _ _ => ok_law_at T F⟩

end PW
open PySem PySem.W PySem.Calls PyProof.Rows
set_option maxRecDepth 100000 in
set_option maxHeartbeats 0 in
theorem PySem.Challenge.cw_pilewheel_k17_numbers_out_of_bounds_holds : PySem.Challenge.rw_pilewheel_k17_numbers_out_of_bounds.Holds := by
  w_on; o_law
  refine HandSHeadRun.head_any (r := OpenLaw.row PySem.Challenge.rw_pilewheel_k17_numbers_out_of_bounds) (q := view (OpenLaw.row PySem.Challenge.rw_pilewheel_k17_numbers_out_of_bounds).prog [44]) (H := PW.hk) (ob := PW.ob) (M := 4000) (loose := PW.loose) (d := HandSHeadRun.topDef (OpenLaw.row PySem.Challenge.rw_pilewheel_k17_numbers_out_of_bounds).prog 44) (kwd := []) PW.ob_eq
    (by kernel_rfl) (fun s => by kernel_rfl) PW.run (by kernel_rfl) (by kernel_rfl) (by kernel_rfl) (by rfl) (by first | assumption | decide +kernel) (by decide +kernel) ⟨rfl, rfl, rfl, rfl, rfl, by decide +kernel⟩ ?hw ?hc
  case hw => w_witness2
  case hc =>
    refine L2.walk_ofE (l := PySem.Challenge.rw_pilewheel_k17_numbers_out_of_bounds) (n := 63) (k := 25) (x := "script") (CX := L2.CX0) rfl (by decide) (by kernel_rfl) ⟨rfl, by decide, by decide⟩ ?F (fun _ _ _ _ z => z)
    intro w mg fa h Y G hmg0
    obtain ⟨K, KX, c, cx⟩ := Y
    have hmg : mg ("law" : PySem.Str) = some (.ref fa) := by
      have e : (HandSHeadRun.topDef (OpenLaw.row PySem.Challenge.rw_pilewheel_k17_numbers_out_of_bounds).prog 44).name = ("law" : PySem.Str) := by kernel_rfl
      rw [← e]
      exact hmg0
    obtain ⟨fd, hb, hF⟩ := PW.facts (P := (PySem.Challenge.rw_pilewheel_k17_numbers_out_of_bounds).prog) (w := w) KX G hmg c cx
    exact ⟨K, fd, PW.spLaw K, KX, hb, fun H a ns hl _ hS => ⟨a, ns, rfl, hS, hl, fun _ => rfl⟩, hF⟩
