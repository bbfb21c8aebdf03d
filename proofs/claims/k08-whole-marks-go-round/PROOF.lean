import PyProof.Rows.All
import Wide.All
import OpenK.AllK
import Wide.FinOn
import KE.KStateDown
import Lean
import HandS.ForMost
import HandS.Exc
import HandS.More
import HandS.WordsExc
import HandS.Defaults
import HandS.Wide
import HandS.SortInts
import HandS.Rev
import HandS.IsInst
import HandS.Deep
import HandS.Zip
import HandS.Head0
import HandS.Head1
import HandS.Head2
import HandS.HeadEnd
import HandS.HeadHook1
import HandS.HeadHook2
import PySem.Challenge.RW_pilewheel_k08_whole_marks_go_round
set_option Elab.async false
set_option linter.all false
set_option maxRecDepth 100000
set_option maxHeartbeats 4000000
namespace PW
open PySem PySem.Spec PyProof.Rows L2

/-! ### a def that may be called -/
structure Cal (P : Program) (w : World) (K : PySem.W.Frag) (mg : Str → Option Value) (base : Heap) (CX : CXT) (k : Nat) (x : Str) (ps : List Str) (sp : Sp) : Prop where
  ex : ∃ (f : Addr) (fd : FuncData), FnOk P w K mg base CX k f fd ps sp ∧ mg x = some (.ref f) ∧ PySem.W.keepIn K (.ref f) = true ∧ Binds K fd ps []
def DefAt (K : PySem.W.Frag) (mg : Str → Option Value) (x : Str) (st : Stmt) : Prop :=
  ∃ fd, FunD K x x (defArgs st) (defBody st) (defScope st) [] [] (He.ga K x) fd ∧ mg x = some (.ref (He.ga K x))
theorem pe_callF {X : Cx} {k : Nat} {x : Str} {ps : List Str} {sp : Sp} {e : Expr} {es : List Expr} {t : TA} {p pos : Pos} (C : Cal X.prog X.w X.K X.mg X.base CX0 k x ps sp) (hr : Room k X.A) (ha : PA X (e :: es) t) (hg : Gl X x := by rfl)
    (hdb : (x == ("__debug__" : Str)) = false := by decide) (he : starEach (e :: es) X.env = (false, eval e X.env) :: starEach es X.env := by rfl) (hpl : (backTo pos (starEach es X.env)).any (·.1) = false := by rfl) :
    PE X (.Call (.Name x p) (e :: es) [] pos) (tCall sp [] E0 t) := by
  obtain ⟨f, fd, F, hm, hk, hb⟩ := C.ex
  exact pe_call F hr hg hm hk hb .nil pass0 ha hdb he hpl
theorem pe_globX {X : Cx} {x : Str} {v : V} {pos : Pos} (h : ∃ u, X.mg x = some u ∧ RelV v u) (hg : Gl X x := by rfl) (hd : (x == ("__debug__" : Str)) = false := by decide) : PE X (.Name x pos) (tC v) := by
  obtain ⟨u, hm, r⟩ := h
  exact pe_glob hg hm r hd
theorem cal_mk {P : Program} {w : World} {K : PySem.W.Frag} {mg : Str → Option Value} {base : Heap} {x : Str} {st : Stmt} {N ps : List Str} {k : Nat} {sp : Sp} (D : DefAt K mg x st) (S : FnScope N ps (defScope st)) (len : ∀ vs H Q E, sp vs H Q E → vs.length = ps.length)
    (hb : ∀ (kV doc pm : Value) (an : Option Addr) (cdv ct : Value) (us : List Value), us.length = ps.length → bindArgs (PySem.W.fnOf x x (defArgs st) (defBody st) (defScope st) .none kV doc pm an cdv ct) ⟨us, []⟩ = pure (ps.zip us))
    (hbody : ∀ (f : Addr) (cdv : Value) (A : Around) (outer : List Env) (s : Shared) (H : Hp) (vs : List V) (Q : VK) (E : XK), Room k (A.deeper (envOfC x (defScope st) s.heap.objs.size f cdv)) → sp vs H Q E →
      ∃ t, PSs (cxOf CX0 P w K mg base N x (defScope st) f cdv A outer s H E).nox (defBody st) t ∧ t { nx := fun _ H' => Q .non H', rt := Q } (start N vs) H) : Cal P w K mg base CX0 (k + 1) x ps sp := by
  obtain ⟨fd, F, g⟩ := D
  refine ⟨⟨_, fd, F.ok S len (fun cdv A outer s H vs Q E hr h => ?_), g, F.kp, F.bindsN hb⟩⟩
  obtain ⟨t, h1, h2⟩ := hbody _ cdv A outer s H vs Q E hr h
  exact ⟨t, h1.nox, h2⟩
/-! ### heaps -/
theorem same_new {H : Hp} {p : Addr} (h : H p = none) (o : HO) : Same H (upd H p o) := fun b u q => by rw [upd_ne (ne_of_none q h)]; exact q
theorem same_mut {H H' : Hp} {p : Addr} (e : Same H H') (h : H p = none) (o : HO) : Same H (upd H' p o) := fun b u q => by
  rw [upd_ne (ne_of_none q h)]
  exact e b u q
theorem small {n : Nat} (h : n ≤ 100000) : n ≤ sizeLine := Nat.le_trans h (by decide)
theorem smallL {n : Nat} (h : n ≤ 100000) : n < sizeLine := Nat.lt_of_le_of_lt h (by decide)
/-- a list of ints that may be changed; the script -/
abbrev IL (H : Hp) (a : Addr) (ns : List Int) : Prop := H a = some (.lst (ns.map V.int))
abbrev SL (K : PySem.W.Frag) (H : Hp) (a : Addr) (ns : List Int) : Prop := SqL K H a (ns.map V.int)
/-- a new list of ints -/
abbrev NL (Q : VK) (H : Hp) (ns : List Int) : Prop := ∀ (H' : Hp) (p : Addr), Same H H' → H p = none → IL H' p ns → Q (.ref p) H'
theorem sq {K : PySem.W.Frag} {H : Hp} {a : Addr} {xs : List V} (h : H a = some (.lst xs)) : SqL K H a xs := .inl (.inl h)
theorem nlen {ns : List Int} : (ns.map V.int).length = ns.length := List.length_map _
theorem take_snoc {α : Type} {l : List α} {i : Nat} {x : α} (h : l[i]? = some x) : l.take (i + 1) = l.take i ++ [x] := by
  rw [List.take_add_one, h] <;> rfl
theorem cut_to (xs : List V) {j : Nat} (h : j ≤ xs.length) : cutV xs none (some (j : Int)) = xs.take j := by
  unfold cutV
  rw [HT.sIx_none, HT.sIx_nat, Nat.min_eq_left h] <;> rfl
theorem cut_from (xs : List V) {j : Nat} (h : j ≤ xs.length) : cutV xs (some (j : Int)) none = xs.drop j := by
  unfold cutV
  rw [HT.sIx_none, HT.sIx_nat, Nat.min_eq_left h]
  exact List.take_of_length_le (by rw [List.length_drop]; exact Nat.le_refl _)
theorem get_int {ns : List Int} {i : Nat} {x : V} (h : (ns.map V.int)[i]? = some x) : ∃ z, ns[i]? = some z ∧ x = .int z := by
  rw [List.getElem?_map] at h
  cases e : ns[i]? with
  | none => rw [e] at h; cases h
  | some z => rw [e] at h; exact ⟨z, rfl, (Option.some.inj h).symm⟩
theorem int_get {ns : List Int} {i : Nat} {z : Int} (h : ns[i]? = some z) : (ns.map V.int)[i]? = some (.int z) := by
  rw [List.getElem?_map, h] <;> rfl
/-- list(reversed(e)), e a list -/
def tListRev (K : PySem.W.Frag) (te : TE) : TE := fun σ H Q => te σ H fun v H1 => ∃ (a : Addr) (xs : List V), v = .ref a ∧ SqL K H1 a xs ∧ ∀ q, H1 q = none → Q (.ref q) (upd H1 q (.lst xs.reverse))
/-! ### rules within a comprehension: the written part by name -/
theorem ix_listK {X : Cx} (K : PySem.W.Frag) (h : X.K = K := by rfl) : IxR X (rIxL K) := by
  subst h
  exact ix_list
theorem call_len_seqK {X : Cx} (K : PySem.W.Frag) (h : X.K = K := by rfl) : CallR X (.builtin "len") (fun xs H Q => ∃ p ys, xs = [.ref p] ∧ (SqL K H p ys ∨ SqT K H p ys) ∧ Q (.int ys.length) H) := by
  subst h
  exact call_len_seq
theorem op_in_seqK {X : Cx} (K : PySem.W.Frag) (h : X.K = K := by rfl) : OpR X (compareOp .In) (rIn K false) := by
  subst h
  exact op_in_seq
theorem op_notIn_seqK {X : Cx} (K : PySem.W.Frag) (h : X.K = K := by rfl) : OpR X (compareOp .NotIn) (rIn K true) := by
  subst h
  exact op_notIn_seq
theorem sl_listK {X : Cx} (K : PySem.W.Frag) (h : X.K = K := by rfl) : SlR X (rSlL K) := by
  subst h
  exact sl_list
theorem hu65 {A : Around} {k : Nat} (r : Room k A) : A.units + 65 < cLine := by
  have := r.un
  omega

/-! ### list(reversed(e)) -/
section
variable {prog : Program} {w : World} {A : Around} {E : Value → Shared → Prop} {s : Shared} {R : Result → Shared → Prop}
theorem ext_rev (hh : A.handled = none) {it l : Addr} {items : Array Value} (hit : s.heap.IsRevIter it l ((items.size : Int) - 1)) (hl : s.heap.IsList l items) (hne : l ≠ it) (hn : items.size ≤ sizeLine) (S : Addr) (res : Value) (c0 : Nat)
    (hS : s.heap.get? S = some { cls := .type "list", data := .seq #[] c0 }) (hSi : S ≠ it) (hSl : S ≠ l)
    (hR : ∀ (h' : Heap) (tk : Nat) (acc' : Array Value) (c' : Nat), (∀ b o, b ≠ S → b ≠ it → s.heap.get? b = some o → h'.get? b = some o) → h'.get? S = some { cls := .type "list", dict := none, data := .seq acc' c', slots := #[] } →
      ItemsOf (fun i v => items[items.size - 1 - i]? = some v) acc' items.size → R (.ok (.ret res)) { s with heap := h', toks := tk }) :
    wpAny (model prog w) A.in1 (Builtin.List.listExtendWith (.ref S) (.ref it) res)
      (fun fin s' => match fin with | .done f => R (.ok f) s' | .again c' => c'.quiet = true ∧ codeAny (model prog w) A c' R s') (fun e s' => R (.error e) s') s := by
  have W := (Walks.listRev (prog := prog) (w := w) (A := A.in1) hh it l hne items).toS
  have hSf : S ∉ [it, l] := by simp only [List.mem_cons, List.not_mem_nil, or_false, not_or]; exact ⟨hSi, hSl⟩
  have hT : s.TypeIs (.ref it) "list_reverseiterator" := Heap.IsRevIter.typeIs hit
  have h1 : Builtin.List.listSameRef (.ref S) (.ref it) = false := by simp [Builtin.List.listSameRef, hSi]
  unfold Builtin.List.listExtendWith
  refine wpAny_bind (wpAny_typeOf hT ?_)
  rw [if_neg (by rw [h1]; decide)]
  refine wpAny_bind (wpAny_pyIter_revIter (s := s) hit ?_)
  refine wpAny_bind (wpAny_holding ?_)
  unfold Builtin.List.listLengthHint
  refine wpAny_bind (wpAny_specialOf hT RT.nolen_lri ?_)
  show wpAny _ A.in1 (specialOf (Value.ref it) (Str.ofString "__length_hint__") >>= _) _ _ _
  refine wpAny_bind (wpAny_specialOf hT RT.hint_lri ?_)
  generalize hid : ("list_reverseiterator.__length_hint__" : String) = id0
  wp_delta
  rw [show splitId id0 = some ("list_reverseiterator", "__length_hint__") from by subst hid; decide +kernel]
  subst hid
  refine wpAny_bind (wpAny_isInstance (b := true) hT (by rw [isSubtype_type]; kernel_rfl) ?_)
  refine wpAny_pure ?_
  rw [if_neg (by decide)]
  have e0 : ((items.size : Nat) : Int) - 1 - ((0 : Nat) : Int) = (items.size : Int) - 1 := by omega
  refine wpAny_pure ⟨plainId_quiet F.plain_extend_loop _, codeAny_extend_loopS W hn _ hSf _ items.size 0 _ _ _ rfl (Nat.zero_le _) ⟨Nat.zero_le _, by rw [e0]; exact hit, hl⟩ hS (ItemsOf.nil _) fun s' acc' c' hm hS' hacc => ?_⟩
  rw [Moved.eq_with hm]
  refine hR s'.heap s'.toks acc' c' (fun b o hb hb2 e => hm.heap b o (fun hmem => ?_) e) hS' hacc
  rcases List.mem_cons.mp hmem with e' | hmem
  · exact hb e'
  · exact hb2 (List.mem_singleton.mp hmem)
theorem init_rev (hh : A.handled = none) {it l : Addr} {items : Array Value} (hit : s.heap.IsRevIter it l ((items.size : Int) - 1)) (hl : s.heap.IsList l items) (hne : l ≠ it) (hn : items.size ≤ sizeLine) (S : Addr)
    (hS : s.heap.get? S = some { cls := .type "list", data := .seq #[] }) (hSi : S ≠ it) (hSl : S ≠ l)
    (hR : ∀ (h' : Heap) (tk : Nat) (acc' : Array Value) (c' : Nat), (∀ b o, b ≠ S → b ≠ it → s.heap.get? b = some o → h'.get? b = some o) → h'.get? S = some { cls := .type "list", dict := none, data := .seq acc' c', slots := #[] } →
      ItemsOf (fun i v => items[items.size - 1 - i]? = some v) acc' items.size → R (.ok (.ret .none)) { s with heap := h', toks := tk }) :
    wpAny (model prog w) A.in1 (Builtin.«list.__init__» ⟨[.ref S, .ref it], []⟩)
      (fun fin s' => match fin with | .done f => R (.ok f) s' | .again c' => c'.quiet = true ∧ codeAny (model prog w) A c' R s') (fun e s' => R (.error e) s') s := by
  show wpAny _ _ (do let old ← Builtin.List.listItems (.ref S); Builtin.List.listUpdate (.ref S) (fun _ => #[]); letGo old.toList.reverse; Builtin.List.listExtendWith (.ref S) (.ref it) .none) _ _ s
  refine wpAny_bind ?_
  unfold Builtin.List.listItems
  refine wpAny_bind (wpAny_seqItems hS rfl (wpAny_pure ?_))
  show wpAny _ _ (updateSeq S (fun _ => #[]) >>= fun _ => letGo (#[] : Array Value).toList.reverse >>= fun _ => Builtin.List.listExtendWith (.ref S) (.ref it) .none) _ _ s
  refine wpAny_bind (wpAny_updateSeq hS rfl ?_)
  have hS₂ := Heap.get?_update_self (Obj.mapSeq (fun _ => (#[] : Array Value))) hS rfl
  have oth : ∀ b o, b ≠ S → s.heap.get? b = some o → (s.heap.update S (Obj.mapSeq (fun _ => (#[] : Array Value)))).get? b = some o :=
    fun b o hb e => (Heap.get?_update_other _ _ (Ne.symm hb)).trans e
  refine wpAny_bind (wpAny_letGo ?_)
  refine ext_rev (s := { s with heap := s.heap.update S (Obj.mapSeq (fun _ => (#[] : Array Value))) }) hh (hit.at fun o e => oth it o (Ne.symm hSi) e) ?_ hne hn S .none _ hS₂ hSi hSl fun h' tk acc' c' hk hS' hacc => ?_
  · obtain ⟨o, e, q⟩ := hl
    exact ⟨o, oth l o (Ne.symm hSl) e, q⟩
  · exact hR h' tk acc' c' (fun b o hb hb2 e => hk b o hb hb2 (oth b o hb e)) hS' hacc
theorem call_list_rev {it l : Addr} {items : Array Value} {Q : Value → Shared → Prop} (hh : A.handled = none) (hit : s.heap.IsRevIter it l ((items.size : Int) - 1)) (hl : s.heap.IsList l items) (hne : l ≠ it) (hn : items.size ≤ sizeLine)
    (hQ : ∀ (h' : Heap) (tk : Nat) (acc' : Array Value) (c' : Nat), (∀ b o, b ≠ it → s.heap.get? b = some o → h'.get? b = some o) →
      h'.get? s.heap.objs.size = some { cls := .type "list", dict := none, data := .seq acc' c', slots := #[] } → ItemsOf (fun i v => items[items.size - 1 - i]? = some v) acc' items.size → Q (.ref s.heap.objs.size) { s with heap := h', toks := tk }) :
    wpAny (model prog w) A (call (.type "list") [.ref it]) Q E s := by
  obtain ⟨oi, hoi, _⟩ := id hit
  obtain ⟨ol, hol, _⟩ := id hl
  refine callType_codes (Q₁ := fun obj s₁ => obj = .ref s.heap.objs.size ∧ s₁ = { s with heap := s.heap.push { cls := .type "list", data := .seq #[] } }) F.called_list (F.typeCall_list_1 _) F.entry_list_init
    (code_list_new _ ⟨rfl, rfl⟩) fun obj s₁ h₁ => ?_
  obtain ⟨rfl, rfl⟩ := h₁
  have hS : (s.heap.push { cls := .type "list", data := .seq #[] }).get? s.heap.objs.size = some { cls := .type "list", data := .seq #[] } := Heap.get?_push_size _ rfl
  refine ⟨⟨_, hS, rfl⟩, F.args_list_init_2 _ _, init_rev (A := A.in1) (s := { s with heap := s.heap.push { cls := .type "list", data := .seq #[] } }) hh (hit.at fun o e => Heap.get?_push_of_some _ e) (hl.push _) hne hn _ hS (Nat.ne_of_gt (Heap.lt_size hoi)) (Nat.ne_of_gt (Heap.lt_size hol)) fun h' tk acc' c' hk hS' hacc => ?_⟩
  exact ⟨rfl, hQ h' tk acc' c' (fun b o hb e => hk b o (Nat.ne_of_lt (Heap.lt_size e)) hb (Heap.get?_push_of_some _ e)) hS' hacc⟩
end
theorem pe_listRev {X : Cx} {e : Expr} {te : TE} {p p2 pos pos2 : Pos} (hc : X.calm = true) (hg : Gl X "list") (hm : X.mg "list" = none) (hg2 : Gl X "reversed") (hm2 : X.mg "reversed" = none) (he : PE X e te)
    (hs : starEach [e] X.env = (false, eval e X.env) :: starEach [] X.env := by rfl)
    (hs2 : starEach [.Call (.Name "reversed" p2) [e] [] pos2] X.env = (false, eval (.Call (.Name "reversed" p2) [e] [] pos2) X.env) :: starEach [] X.env := by rfl) :
    PE X (.Call (.Name "list" p) [.Call (.Name "reversed" p2) [e] [] pos2] [] pos) (tListRev X.K te) := by
  refine ⟨fun pins s σ H Q I h => ?_⟩
  refine Call_ (ld_blt I hg hm PyProof.Rows.boot_list (PyProof.Rows.callWith_type1 (args_cons (Call_ (ld_blt I hg2 hm2 PyProof.Rows.boot_reversed (PyProof.Rows.callWith_type1 (args_cons (thn (he.run pins s σ H _ I h) fun u s1 ⟨v, H1, I1, r1, q1⟩ => args_nil ?_) hs) hs rfl))) hs2) hs2 rfl))
  obtain ⟨a, xs, ev, hq, q⟩ := q1
  subst ev
  obtain rfl : u = Value.ref a := r1
  obtain ⟨its, rv, p', hz⟩ := I1.list hq
  refine call_reversed_list p'.isList (args_nil ?_)
  have k0 : ∀ b o, s1.heap.get? b = some o → (s1.heap.push (revObj a ((its.toArray.size : Int) - 1))).get? b = some o := fun b o e => Heap.get?_push_of_some _ e
  have I2 : Inv X pins σ H1 { s1 with heap := s1.heap.push (revObj a ((its.toArray.size : Int) - 1)) } := I1.kept (t' := s1.toks) k0
  obtain ⟨f0, f1, f2, f3, f4, f5⟩ := I1.fpOk (H' := H1) (b := s1.heap.objs.size) (Nat.le_refl _) (I1.hok.fresh (Nat.le_refl _))
  have hl := p'.isList
  obtain ⟨ol, hol, _⟩ := id hl
  have hne : a ≠ s1.heap.objs.size := Nat.ne_of_lt (Heap.lt_size hol)
  have hn : its.toArray.size ≤ sizeLine := by rw [List.size_toArray, ← rv.length]; exact hz
  refine call_list_rev (s := { s1 with heap := s1.heap.push (revObj a ((its.toArray.size : Int) - 1)) }) (I1.ok.hd hc) ⟨_, Heap.get?_push_size _ rfl, rfl, rfl⟩ (hl.push _) hne hn fun h' tk acc c' hk hS hi => ?_
  have hit0 : H1 s1.heap.objs.size = none := I1.hok.fresh (Nat.le_refl _)
  have hS0 : H1 (s1.heap.push (revObj a ((its.toArray.size : Int) - 1))).objs.size = none := I2.hok.fresh (Nat.le_refl _)
  have hSit : s1.heap.objs.size ≠ (s1.heap.push (revObj a ((its.toArray.size : Int) - 1))).objs.size := by rw [Heap.size_push]; omega
  generalize hS2 : (s1.heap.push (revObj a ((its.toArray.size : Int) - 1))).objs.size = S at *
  have hn3 : ((s1.heap.push (revObj a ((its.toArray.size : Int) - 1))).push { cls := .type "list", data := .seq #[] }).get? S = some { cls := .type "list", data := .seq #[] } := by
    rw [← hS2]
    exact Heap.get?_push_size _ rfl
  have I3 : Inv X pins σ (upd H1 S (.lst [])) { s1 with heap := (s1.heap.push (revObj a ((its.toArray.size : Int) - 1))).push { cls := .type "list", data := .seq #[] } } :=
    I2.laid (t' := s1.toks) (fun b o e => Heap.get?_push_of_some _ e) (Nat.le_of_eq hS2) (show ObjOk X.prog X.w _ _ _ (.lst []) from ⟨Nat.zero_le _, [], 0, .nil, hn3⟩)
  have hn4 := Heap.get?_update_self (fun _ => ({ cls := .type "list", dict := none, data := .seq acc c', slots := #[] } : Obj)) hn3 rfl
  have I4 : Inv X pins σ (upd (upd H1 S (.lst [])) S (.lst xs.reverse)) { s1 with heap := ((s1.heap.push (revObj a ((its.toArray.size : Int) - 1))).push { cls := .type "list", data := .seq #[] }).update S (fun _ => ({ cls := .type "list", dict := none, data := .seq acc c', slots := #[] } : Obj)) } :=
    I3.write (t' := s1.toks) (x := S) (e := S) (by rw [upd_same]; trivial) (.inl rfl) (fun b u hb e => (Heap.get?_update_other _ _ (Ne.symm hb)).trans e) ⟨_, hn4⟩
      (show ObjOk X.prog X.w _ _ _ (.lst xs.reverse) from ⟨by rw [List.length_reverse]; exact hz, acc.toList, c', RT.vals_rev rv hi, by rw [Array.toArray_toList]; exact hn4⟩)
  rw [upd_upd] at I4
  have hnS : (upd H1 S (.lst xs.reverse)) s1.heap.objs.size = none := by rw [upd_ne hSit]; exact hit0
  obtain ⟨f0, f1, f2, f3, f4, f5⟩ := I1.fpOk (H' := upd H1 S (.lst xs.reverse)) (b := s1.heap.objs.size) (Nat.le_refl _) hnS
  have I5 : Inv X pins σ (upd H1 S (.lst xs.reverse)) { s1 with heap := h', toks := tk } := Inv.turned (s := { s1 with heap := ((s1.heap.push (revObj a ((its.toArray.size : Int) - 1))).push { cls := .type "list", data := .seq #[] }).update S (fun _ => ({ cls := .type "list", dict := none, data := .seq acc c', slots := #[] } : Obj)) }) (t' := tk) (it := s1.heap.objs.size) I4 (fun b o hb e => by
    by_cases hbS : b = S
    · subst hbS
      rw [hn4] at e
      rw [hS]
      exact e
    · have e2 := (Heap.get?_update_other _ _ (Ne.symm hbS)).symm.trans e
      rcases Heap.get?_push_cases e2 with ⟨z, _⟩ | z
      · exact absurd (z.trans hS2) hbS
      · exact hk b o hb z) f0 f1 f3 f4 f5
  exact ⟨.ref S, _, I5, rfl, q _ hS0⟩

/-! ### lists that fall -/
def insD (x : Int) : List Int → List Int
  | [] => [x]
  | y :: r => if y > x then y :: insD x r else x :: y :: r
def fall : List Int → List Int
  | [] => []
  | x :: r => insD x (fall r)
abbrev Falls (l : List Int) : Prop := l.Pairwise (· ≥ ·)
theorem insD_perm (x : Int) : ∀ l : List Int, (insD x l).Perm (x :: l)
  | [] => .refl _
  | y :: r => by
    unfold insD
    split
    · exact ((insD_perm x r).cons y).trans (.swap x y r)
    · exact .refl _
theorem insD_mem {x z : Int} {l : List Int} : z ∈ insD x l ↔ z = x ∨ z ∈ l := by
  rw [(insD_perm x l).mem_iff, List.mem_cons]
theorem insD_falls {x : Int} : ∀ {l : List Int}, Falls l → Falls (insD x l)
  | [], _ => List.pairwise_singleton _ _
  | y :: r, h => by
    obtain ⟨h1, h2⟩ := List.pairwise_cons.mp h
    unfold insD
    split
    · rename_i c
      refine List.pairwise_cons.mpr ⟨fun z hz => ?_, insD_falls h2⟩
      rcases insD_mem.mp hz with rfl | hz
      · exact Int.le_of_lt c
      · exact h1 z hz
    · rename_i c
      refine List.pairwise_cons.mpr ⟨fun z hz => ?_, h⟩
      rcases List.mem_cons.mp hz with rfl | hz
      · show z ≤ x
        omega
      · have := h1 z hz
        show z ≤ x
        omega
theorem fall_perm : ∀ l : List Int, (fall l).Perm l
  | [] => .refl _
  | x :: r => (insD_perm x _).trans ((fall_perm r).cons x)
theorem fall_falls : ∀ l : List Int, Falls (fall l)
  | [] => List.Pairwise.nil
  | _ :: r => insD_falls (fall_falls r)
theorem falls_unique : ∀ {l m : List Int}, l.Perm m → Falls l → Falls m → l = m
  | [], m, h, _, _ => (List.nil_perm.mp h).symm
  | x :: l, [], h, _, _ => absurd h.length_eq (by simp)
  | x :: l, y :: m, h, hl, hm => by
    obtain ⟨a1, a2⟩ := List.pairwise_cons.mp hl
    obtain ⟨b1, b2⟩ := List.pairwise_cons.mp hm
    have e : x = y := by
      have hx : x ∈ y :: m := h.mem_iff.mp (List.mem_cons_self ..)
      have hy : y ∈ x :: l := h.mem_iff.mpr (List.mem_cons_self ..)
      rcases List.mem_cons.mp hx with e | hx
      · exact e
      · rcases List.mem_cons.mp hy with e | hy
        · exact e.symm
        · have p := b1 x hx
          have q := a1 y hy
          omega
    subst e
    rw [falls_unique ((List.perm_cons x).mp h) a2 b2]
theorem fall_eq {l m : List Int} (h : m.Perm l) (hm : Falls m) : m = fall l := falls_unique (h.trans (fall_perm l).symm) hm (fall_falls l)
theorem fall_self {l : List Int} (h : Falls l) : fall l = l := (fall_eq (.refl _) h).symm
theorem fall_length (l : List Int) : (fall l).length = l.length := (fall_perm l).length_eq
theorem perm_sum : ∀ {l m : List Int}, l.Perm m → l.sum = m.sum := fun h => by
  induction h with
  | nil => rfl
  | cons x _ ih => rw [List.sum_cons, List.sum_cons, ih]
  | swap x y l => simp only [List.sum_cons]; omega
  | trans _ _ a b => exact a.trans b
theorem fall_sum (l : List Int) : (fall l).sum = l.sum := perm_sum (fall_perm l)
/-! ### settings -/
structure Good (ns : List Int) : Prop where
  pos : ∀ x ∈ ns, 1 ≤ x
  falls : Falls ns
  ne : ns ≠ []
theorem len_le_sum : ∀ {ns : List Int}, (∀ x ∈ ns, 1 ≤ x) → (ns.length : Int) ≤ ns.sum
  | [], _ => Int.le_refl 0
  | x :: r, h => by
    have h1 := h x (List.mem_cons_self ..)
    have ih := len_le_sum (ns := r) fun z hz => h z (List.mem_cons_of_mem _ hz)
    rw [List.sum_cons, List.length_cons]
    omega
theorem mem_le_sum : ∀ {ns : List Int}, (∀ x ∈ ns, 0 ≤ x) → ∀ x ∈ ns, x ≤ ns.sum
  | y :: r, h, x, hx => by
    have h1 := h y (List.mem_cons_self ..)
    have h2 : ∀ z ∈ r, 0 ≤ z := fun z hz => h z (List.mem_cons_of_mem _ hz)
    have h3 : 0 ≤ r.sum := by
      clear hx
      induction r with
      | nil => exact Int.le_refl 0
      | cons a t ih =>
        rw [List.sum_cons]
        have q1 := h2 a (List.mem_cons_self ..)
        have q2 := ih (fun z hz => h z (by rcases List.mem_cons.mp hz with e | e <;> simp [e])) fun z hz => h2 z (List.mem_cons_of_mem _ hz)
        omega
    rw [List.sum_cons]
    rcases List.mem_cons.mp hx with rfl | hx
    · omega
    · have q := mem_le_sum h2 x hx
      omega
/-- a setting of n coins -/
def IsSet (n : Int) (ns : List Int) : Prop := Good ns ∧ ns.sum = n
theorem IsSet.len {n : Int} {ns : List Int} (h : IsSet n ns) : (ns.length : Int) ≤ n := by
  have := len_le_sum h.1.pos
  rw [h.2] at this
  exact this
theorem IsSet.le {n : Int} {ns : List Int} (h : IsSet n ns) {x : Int} (hx : x ∈ ns) : x ≤ n := by
  have := mem_le_sum (fun z hz => by have := h.1.pos z hz; omega) x hx
  rw [h.2] at this
  exact this
theorem IsSet.ne {n : Int} {ns : List Int} (h : IsSet n ns) : 0 < ns.length := List.length_pos_iff.mpr h.1.ne
/-! ### a turn -/
def down1 (ns : List Int) : List Int := (ns.filter fun z => decide (z > 1)).map (· - 1)
def turn (ns : List Int) : List Int := insD ns.length (down1 ns)
theorem down1_cons (x : Int) (r : List Int) : down1 (x :: r) = if x > 1 then (x - 1) :: down1 r else down1 r := by
  unfold down1
  rw [List.filter_cons]
  by_cases c : x > 1
  · rw [if_pos c, if_pos (decide_eq_true c)] <;> rfl
  · rw [if_neg c, if_neg (by simp only [decide_eq_true_eq]; exact c)]
theorem mem_down1 {z : Int} {ns : List Int} : z ∈ down1 ns ↔ z + 1 ∈ ns ∧ 1 ≤ z := by
  unfold down1
  simp only [List.mem_map, List.mem_filter, decide_eq_true_eq]
  constructor
  · rintro ⟨y, ⟨h1, h2⟩, rfl⟩
    exact ⟨by rw [show y - 1 + 1 = y by omega]; exact h1, by omega⟩
  · rintro ⟨h1, h2⟩
    exact ⟨z + 1, ⟨h1, by omega⟩, by omega⟩
theorem down1_falls {ns : List Int} (h : Falls ns) : Falls (down1 ns) := by
  induction ns with
  | nil => exact List.Pairwise.nil
  | cons x r ih =>
    obtain ⟨h1, h2⟩ := List.pairwise_cons.mp h
    rw [down1_cons]
    split
    · refine List.pairwise_cons.mpr ⟨fun z hz => ?_, ih h2⟩
      have := h1 _ (mem_down1.mp hz).1
      show z ≤ x - 1
      omega
    · exact ih h2
theorem down1_sum {ns : List Int} (h : ∀ x ∈ ns, 1 ≤ x) : (down1 ns).sum + ns.length = ns.sum := by
  induction ns with
  | nil => rfl
  | cons x r ih =>
    have h1 := h x (List.mem_cons_self ..)
    have ih := ih fun z hz => h z (List.mem_cons_of_mem _ hz)
    rw [down1_cons]
    split
    · rw [List.sum_cons, List.sum_cons, List.length_cons]; omega
    · rw [List.sum_cons, List.length_cons]; omega
theorem down1_length (ns : List Int) : (down1 ns).length ≤ ns.length := by
  unfold down1
  rw [List.length_map]
  exact List.length_filter_le _ _
theorem turn_perm (ns : List Int) : (turn ns).Perm (down1 ns ++ [(ns.length : Int)]) := (insD_perm _ _).trans (List.perm_append_comm (l₁ := [(ns.length : Int)]) (l₂ := down1 ns))
theorem turn_eq {ns : List Int} (h : Falls ns) : turn ns = fall (down1 ns ++ [(ns.length : Int)]) := fall_eq (turn_perm ns) (insD_falls (down1_falls h))
theorem turn_set {n : Int} {ns : List Int} (h : IsSet n ns) : IsSet n (turn ns) := by
  refine ⟨⟨fun x hx => ?_, insD_falls (down1_falls h.1.falls), fun e => ?_⟩, ?_⟩
  · rcases insD_mem.mp hx with rfl | hx
    · have := h.ne
      omega
    · exact (mem_down1.mp hx).2
  · have : (turn ns).length = (down1 ns).length + 1 := (insD_perm _ _).length_eq
    rw [e] at this
    simp at this
  · rw [show (turn ns).sum = _ from perm_sum (insD_perm _ _), List.sum_cons]
    have := down1_sum h.1.pos
    rw [h.2] at this
    omega
theorem turn_length (ns : List Int) : (turn ns).length ≤ ns.length + 1 := by
  have : (turn ns).length = (down1 ns).length + 1 := (insD_perm _ _).length_eq
  have := down1_length ns
  omega

/-! ### the stair -/
def stairUp : Nat → Nat → Nat → Nat
  | 0, s, _ => s
  | f + 1, s, n => if s * (s + 1) < 2 * n then stairUp f (s + 1) n else s
def stair (n : Nat) : Nat := stairUp n 1 n
theorem sq_mono {a b : Nat} (h : a ≤ b) : a * (a + 1) ≤ b * (b + 1) := Nat.mul_le_mul h (Nat.succ_le_succ h)
theorem le_sq (a : Nat) : a ≤ a * (a + 1) := Nat.le_mul_of_pos_right a (Nat.succ_pos a)
theorem stairUp_spec : ∀ (f s n : Nat), n ≤ f + s → 1 ≤ s → (s - 1) * s < 2 * n → 1 ≤ stairUp f s n ∧ (stairUp f s n - 1) * stairUp f s n < 2 * n ∧ 2 * n ≤ stairUp f s n * (stairUp f s n + 1)
  | 0, s, n, h, h1, h2 => by
    refine ⟨h1, h2, ?_⟩
    show 2 * n ≤ s * (s + 1)
    have : s * 2 ≤ s * (s + 1) := Nat.mul_le_mul_left s (by omega)
    omega
  | f + 1, s, n, h, h1, h2 => by
    unfold stairUp
    split
    · rename_i c
      exact stairUp_spec f (s + 1) n (by omega) (by omega) (by rw [Nat.add_sub_cancel]; exact c)
    · rename_i c
      exact ⟨h1, h2, by omega⟩
theorem stair_spec {n : Nat} (h : 1 ≤ n) : 1 ≤ stair n ∧ (stair n - 1) * stair n < 2 * n ∧ 2 * n ≤ stair n * (stair n + 1) := stairUp_spec n 1 n (by omega) (Nat.le_refl _) (by omega)
theorem stair_uniq {n s : Nat} (h : 1 ≤ n) (h1 : 1 ≤ s) (h2 : (s - 1) * s < 2 * n) (h3 : 2 * n ≤ s * (s + 1)) : s = stair n := by
  obtain ⟨a, b, c⟩ := stair_spec h
  generalize stair n = t at *
  rcases Nat.lt_trichotomy s t with l | e | l
  · have := sq_mono (show s ≤ t - 1 by omega)
    rw [show t - 1 + 1 = t by omega] at this
    omega
  · exact e
  · have := sq_mono (show t ≤ s - 1 by omega)
    rw [show s - 1 + 1 = s by omega] at this
    omega
theorem stair_le {n : Nat} (h : 1 ≤ n) {b : Nat} (hb : 2 * n ≤ b * (b + 1)) (h1 : 1 ≤ b) : stair n ≤ b := by
  obtain ⟨_, b1, _⟩ := stair_spec h
  rcases Nat.lt_or_ge b (stair n) with l | l
  · have := sq_mono (show b ≤ stair n - 1 by omega)
    rw [show stair n - 1 + 1 = stair n by omega] at this
    omega
  · exact l
/-- the ones of n coins' marks -/
def restOf (n : Nat) : Nat := n - stair n * (stair n - 1) / 2
theorem half_sq (s : Nat) : 2 * (s * (s + 1) / 2) = s * (s + 1) := by
  have h : s * (s + 1) % 2 = 0 := by
    rcases Nat.mod_two_eq_zero_or_one s with e | e
    · rw [Nat.mul_mod, e, Nat.zero_mul]
    · rw [Nat.mul_mod, Nat.add_mod, e]
  omega
theorem half_sq' {s : Nat} (h : 1 ≤ s) : 2 * (s * (s - 1) / 2) = s * (s - 1) := by
  have := half_sq (s - 1)
  rw [show s - 1 + 1 = s by omega, Nat.mul_comm (s - 1) s] at this
  exact this
theorem rest_spec {n : Nat} (h : 1 ≤ n) : 1 ≤ restOf n ∧ restOf n ≤ stair n ∧ n = stair n * (stair n - 1) / 2 + restOf n := by
  obtain ⟨a, b, c⟩ := stair_spec h
  have e := half_sq' a
  unfold restOf
  have d : stair n * (stair n + 1) = stair n * (stair n - 1) + 2 * stair n := by
    rw [← Nat.mul_comm (stair n) 2, ← Nat.mul_add]
    congr 1
    omega
  rw [Nat.mul_comm] at b
  omega
/-! ### marks -/
def mk : List Int → List Int
  | [] => []
  | m :: r => ((r.length : Int) + m) :: mk r
def ofMarks (ms : List Int) : List Int := (mk ms).filter fun z => decide (z > 0)
theorem mk_length : ∀ ms : List Int, (mk ms).length = ms.length
  | [] => rfl
  | _ :: r => congrArg (· + 1) (mk_length r)
theorem mk_get : ∀ {ms : List Int} {i : Nat} {m : Int}, ms[i]? = some m → (mk ms)[i]? = some ((ms.length : Int) - 1 - i + m)
  | [], _, _, h => by simp at h
  | a :: r, 0, m, h => by
    have e : a = m := Option.some.inj h
    subst e
    show some ((r.length : Int) + a) = some (((r.length + 1 : Nat) : Int) - 1 - ((0 : Nat) : Int) + a)
    congr 1
    omega
  | a :: r, i + 1, m, h => by
    have ih := mk_get (ms := r) (i := i) (m := m) h
    show (mk r)[i]? = some (((r.length + 1 : Nat) : Int) - 1 - ((i + 1 : Nat) : Int) + m)
    rw [ih]
    congr 1
    omega
/-- noughts and ones -/
def Bits (ms : List Int) : Prop := ∀ m ∈ ms, m = 0 ∨ m = 1
theorem mk_bits : ∀ {ms : List Int}, Bits ms → (∀ z ∈ mk ms, 0 ≤ z ∧ z ≤ ms.length) ∧ Falls (mk ms)
  | [], _ => ⟨fun _ h => (by cases h), List.Pairwise.nil⟩
  | m :: r, h => by
    have hm := h m (List.mem_cons_self ..)
    obtain ⟨h1, h2⟩ := mk_bits (ms := r) fun z hz => h z (List.mem_cons_of_mem _ hz)
    refine ⟨fun z hz => ?_, List.pairwise_cons.mpr ⟨fun z hz => ?_, h2⟩⟩
    · rw [List.length_cons]
      rcases List.mem_cons.mp hz with rfl | hz
      · omega
      · have := h1 z hz
        omega
    · have := h1 z hz
      show z ≤ (r.length : Int) + m
      omega
theorem mk_sum : ∀ ms : List Int, (mk ms).sum = ((ms.length * (ms.length - 1) / 2 : Nat) : Int) + ms.sum
  | [] => rfl
  | m :: r => by
    have ih := mk_sum r
    show ((r.length : Int) + m) + (mk r).sum = _
    rw [ih, List.sum_cons, List.length_cons]
    have e1 := half_sq r.length
    have e2 : 2 * (r.length * (r.length - 1) / 2) = r.length * (r.length - 1) := by
      rcases Nat.eq_zero_or_pos r.length with e | e
      · rw [e]
      · exact half_sq' e
    rw [Nat.add_sub_cancel, Nat.mul_comm (r.length + 1) r.length]
    have e3 : r.length * (r.length + 1) = r.length * (r.length - 1) + 2 * r.length := by
      rcases Nat.eq_zero_or_pos r.length with e | e
      · rw [e]
      · rw [← Nat.mul_comm r.length 2, ← Nat.mul_add]
        congr 1
        omega
    omega
theorem filter_pos_sum : ∀ {l : List Int}, (∀ z ∈ l, 0 ≤ z) → (l.filter fun z => decide (z > 0)).sum = l.sum
  | [], _ => rfl
  | x :: r, h => by
    have h1 := h x (List.mem_cons_self ..)
    have ih := filter_pos_sum (l := r) fun z hz => h z (List.mem_cons_of_mem _ hz)
    rw [List.filter_cons]
    by_cases c : x > 0
    · rw [if_pos (decide_eq_true c), List.sum_cons, List.sum_cons, ih]
    · rw [if_neg (by simp only [decide_eq_true_eq]; exact c), List.sum_cons, ih]
      omega
theorem ofMarks_set {n : Nat} (hn : 1 ≤ n) {ms : List Int} (hb : Bits ms) (hl : ms.length = stair n) (hs : ms.sum = (restOf n : Int)) : IsSet n (ofMarks ms) := by
  obtain ⟨h1, h2⟩ := mk_bits hb
  have hsum : (ofMarks ms).sum = (n : Int) := by
    unfold ofMarks
    rw [filter_pos_sum fun z hz => (h1 z hz).1, mk_sum, hs, hl]
    have := (rest_spec hn).2.2
    omega
  refine ⟨⟨fun x hx => ?_, ?_, fun e => ?_⟩, hsum⟩
  · have := of_decide_eq_true (List.mem_filter.mp hx).2
    omega
  · exact List.Pairwise.filter _ h2
  · rw [e] at hsum
    have : (0 : Int) = n := hsum
    omega
/-! ### elders: what the pile at a place was not yet -/
def elderAt (ns : List Int) (j : Nat) (p : Int) : List Int := ((ns.take j ++ ns.drop (j + 1)).map (· + 1)) ++ List.replicate (p - ((ns.length : Int) - 1)).toNat 1
theorem sum_replicate (n : Nat) : (List.replicate n (1 : Int)).sum = n := by
  induction n with
  | zero => rfl
  | succ n ih => rw [List.replicate_succ, List.sum_cons, ih]; omega
theorem sum_map_add1 : ∀ l : List Int, (l.map (· + 1)).sum = l.sum + l.length
  | [] => rfl
  | x :: r => by
    have ih := sum_map_add1 r
    rw [List.map_cons, List.sum_cons, List.sum_cons, ih, List.length_cons]
    omega
theorem take_drop_sum : ∀ {ns : List Int} {j : Nat} {p : Int}, ns[j]? = some p → (ns.take j ++ ns.drop (j + 1)).sum + p = ns.sum ∧ (ns.take j ++ ns.drop (j + 1)).length + 1 = ns.length
  | [], _, _, h => by simp at h
  | a :: r, 0, p, h => by
    have e : a = p := Option.some.inj h
    subst e
    refine ⟨?_, rfl⟩
    show r.sum + a = (a :: r).sum
    rw [List.sum_cons]
    omega
  | a :: r, j + 1, p, h => by
    obtain ⟨h1, h2⟩ := take_drop_sum (ns := r) (j := j) (p := p) h
    refine ⟨?_, ?_⟩
    · show (a :: (r.take j ++ r.drop (j + 1))).sum + p = (a :: r).sum
      rw [List.sum_cons, List.sum_cons]
      omega
    · show (r.take j ++ r.drop (j + 1)).length + 1 + 1 = r.length + 1
      omega
theorem take_drop_sub (ns : List Int) (j : Nat) : (ns.take j ++ ns.drop (j + 1)).Sublist ns := by
  have h := (List.Sublist.refl (ns.take j)).append (List.drop_sublist 1 (ns.drop j))
  rw [List.take_append_drop, List.drop_drop] at h
  exact h
theorem elder_set {n : Int} {ns : List Int} (h : IsSet n ns) {j : Nat} {p : Int} (hp : ns[j]? = some p) (hb : p ≥ (ns.length : Int) - 1) : IsSet n (elderAt ns j p) := by
  obtain ⟨s1, s2⟩ := take_drop_sum hp
  have sub := take_drop_sub ns j
  have h1 := h.1.pos p (List.mem_of_getElem? hp)
  refine ⟨⟨fun x hx => ?_, ?_, fun e => ?_⟩, ?_⟩
  · rcases List.mem_append.mp hx with hx | hx
    · obtain ⟨y, hy, rfl⟩ := List.mem_map.mp hx
      have := h.1.pos y (sub.subset hy)
      omega
    · rw [List.eq_of_mem_replicate hx]
      exact Int.le_refl 1
  · refine List.pairwise_append.mpr ⟨?_, ?_, fun a ha b hb => ?_⟩
    · rw [List.pairwise_map]
      exact (h.1.falls.sublist sub).imp fun h => by omega
    · exact List.pairwise_replicate.mpr (.inr (Int.le_refl 1))
    · obtain ⟨y, hy, rfl⟩ := List.mem_map.mp ha
      have := h.1.pos y (sub.subset hy)
      rw [List.eq_of_mem_replicate hb]
      omega
  · have := congrArg List.length e
    unfold elderAt at this
    rw [List.length_append, List.length_map, List.length_replicate, List.length_nil] at this
    omega
  · unfold elderAt
    rw [List.sum_append, sum_map_add1, sum_replicate]
    have := h.2
    omega

/-! ### marks of a setting, rings -/
def marksAt (S : Nat) (ns : List Int) : List Int := (List.range S).map fun k : Nat => ns.getD k 0 - ((S : Int) - 1 - (k : Int))
def isBits (ms : List Int) : Bool := ms.all fun m => decide (0 ≤ m ∧ m ≤ 1)
def marksBy (ns : List Int) : List Int :=
  if stair ns.sum.toNat < ns.length then [] else if isBits (marksAt (stair ns.sum.toNat) ns) = true then marksAt (stair ns.sum.toNat) ns else []
theorem isBits_iff {ms : List Int} : isBits ms = true ↔ Bits ms := by
  unfold isBits Bits
  rw [List.all_eq_true]
  constructor
  · intro h m hm
    have := of_decide_eq_true (h m hm)
    omega
  · intro h m hm
    have := h m hm
    exact decide_eq_true (by omega)
theorem filter_pos_getD : ∀ {l : List Int} (k : Nat), (∀ z ∈ l, 0 ≤ z) → Falls l → (l.filter fun z => decide (z > 0)).getD k 0 = l.getD k 0
  | [], _, _, _ => rfl
  | x :: r, k, h, hf => by
    obtain ⟨f1, f2⟩ := List.pairwise_cons.mp hf
    have hr : ∀ z ∈ r, 0 ≤ z := fun z hz => h z (List.mem_cons_of_mem _ hz)
    rw [List.filter_cons]
    by_cases c : x > 0
    · rw [if_pos (decide_eq_true c)]
      cases k with
      | zero => rfl
      | succ k => exact filter_pos_getD k hr f2
    · rw [if_neg (by simp only [decide_eq_true_eq]; exact c)]
      have hx := h x (List.mem_cons_self ..)
      have hz : ∀ z ∈ r, z = 0 := fun z hz => by
        have a := f1 z hz
        have b := hr z hz
        omega
      have e : r.filter (fun z => decide (z > 0)) = [] := List.filter_eq_nil_iff.mpr fun z hz' => by
        rw [hz z hz']
        decide
      rw [e]
      cases k with
      | zero =>
        show (0 : Int) = x
        omega
      | succ k =>
        show (0 : Int) = r.getD k 0
        rw [List.getD_eq_getElem?_getD]
        cases hk : r[k]? with
        | none => rfl
        | some z =>
          rw [hz z (List.mem_of_getElem? hk)]
          rfl
theorem bits_sum_range : ∀ {ms : List Int}, Bits ms → 0 ≤ ms.sum ∧ ms.sum ≤ ms.length
  | [], _ => ⟨Int.le_refl _, Int.le_refl _⟩
  | m :: r, h => by
    have hm := h m (List.mem_cons_self ..)
    have ih := bits_sum_range (ms := r) fun z hz => h z (List.mem_cons_of_mem _ hz)
    rw [List.sum_cons, List.length_cons]
    omega
theorem ofMarks_sum {ms : List Int} (h : Bits ms) : (ofMarks ms).sum = ((ms.length * (ms.length - 1) / 2 : Nat) : Int) + ms.sum := by
  unfold ofMarks
  rw [filter_pos_sum fun z hz => ((mk_bits h).1 z hz).1, mk_sum]
theorem ofMarks_stair {ms : List Int} (h : Bits ms) (h1 : 1 ≤ ms.sum) : stair (ofMarks ms).sum.toNat = ms.length := by
  obtain ⟨b0, b1⟩ := bits_sum_range h
  have hl : 1 ≤ ms.length := by omega
  have e := ofMarks_sum h
  have e2 := half_sq' hl
  have e3 : ms.length * (ms.length + 1) = ms.length * (ms.length - 1) + 2 * ms.length := by
    rw [← Nat.mul_comm ms.length 2, ← Nat.mul_add]
    congr 1
    omega
  refine (stair_uniq (by omega) hl ?_ ?_).symm
  · rw [Nat.mul_comm]
    omega
  · omega
theorem ofMarks_len {ms : List Int} : (ofMarks ms).length ≤ ms.length := by
  have := List.length_filter_le (fun z => decide (z > 0)) (mk ms)
  rw [mk_length] at this
  exact this
theorem ofMarks_isSet {ms : List Int} (h : Bits ms) (h1 : 1 ≤ ms.sum) : IsSet (ofMarks ms).sum (ofMarks ms) := by
  obtain ⟨k1, k2⟩ := mk_bits h
  refine ⟨⟨fun x hx => ?_, List.Pairwise.filter _ k2, fun e => ?_⟩, rfl⟩
  · have := of_decide_eq_true (List.mem_filter.mp hx).2
    omega
  · have := ofMarks_sum h
    rw [e] at this
    have : (0 : Int) = ((ms.length * (ms.length - 1) / 2 : Nat) : Int) + ms.sum := this
    omega
theorem marksBy_of {ms : List Int} (h : Bits ms) (h1 : 1 ≤ ms.sum) : marksBy (ofMarks ms) = ms := by
  have hs := ofMarks_stair h h1
  have hl := ofMarks_len (ms := ms)
  have e : marksAt ms.length (ofMarks ms) = ms := by
    apply List.ext_getElem?
    intro k
    unfold marksAt
    by_cases hk : k < ms.length
    · have gk : ms[k]? = some ms[k] := List.getElem?_eq_getElem hk
      obtain ⟨k1, k2⟩ := mk_bits h
      have hd : (ofMarks ms).getD k 0 = (ms.length : Int) - 1 - k + ms[k] := by
        unfold ofMarks
        rw [filter_pos_getD k (fun z hz => (k1 z hz).1) k2, List.getD_eq_getElem?_getD, mk_get gk] <;> rfl
      rw [List.getElem?_map, List.getElem?_range hk, gk]
      show some ((ofMarks ms).getD k 0 - ((ms.length : Int) - 1 - (k : Int))) = some ms[k]
      rw [hd]
      congr 1
      omega
    · rw [List.getElem?_eq_none (by rw [List.length_map, List.length_range]; omega), List.getElem?_eq_none (by omega)]
  unfold marksBy
  rw [hs, if_neg (by omega), e, if_pos (isBits_iff.mpr h)]
/-! ### a turn is a turning of the marks -/
theorem mk_snoc : ∀ (l : List Int) (z : Int), mk (l ++ [z]) = (mk l).map (· + 1) ++ [z]
  | [], z => by
    show [((0 : Nat) : Int) + z] = [z]
    congr 1
    omega
  | m :: r, z => by
    show (((r ++ [z]).length : Int) + m) :: mk (r ++ [z]) = ((r.length : Int) + m + 1) :: ((mk r).map (· + 1) ++ [z])
    rw [mk_snoc r z, List.length_append, List.length_singleton]
    congr 1
    omega
theorem turn_marks {l : List Int} {z : Int} (h : Bits (l ++ [z])) (h1 : 1 ≤ (l ++ [z]).sum) : turn (ofMarks (l ++ [z])) = ofMarks (z :: l) := by
  have hl : Bits l := fun m hm => h m (List.mem_append_left _ hm)
  have hz : z = 0 ∨ z = 1 := h z (List.mem_append_right _ (List.mem_singleton.mpr rfl))
  obtain ⟨k1, k2⟩ := mk_bits hl
  have hf : ((mk l).map (· + 1)).filter (fun x => decide (x > 0)) = (mk l).map (· + 1) := List.filter_eq_self.mpr fun x hx => by
    obtain ⟨y, hy, rfl⟩ := List.mem_map.mp hx
    have := (k1 y hy).1
    exact decide_eq_true (by omega)
  have e1 : ofMarks (l ++ [z]) = (mk l).map (· + 1) ++ [z].filter (fun x => decide (x > 0)) := by
    unfold ofMarks
    rw [mk_snoc, List.filter_append, hf]
  have hd : down1 (ofMarks (l ++ [z])) = ofMarks l := by
    rw [e1]
    unfold down1 ofMarks
    rw [List.filter_append, List.map_append, List.filter_map, List.map_map]
    have a : (mk l).filter ((fun z => decide (z > 1)) ∘ fun x => x + 1) = (mk l).filter fun x => decide (x > 0) := by
      congr 1
      funext x
      show decide (x + 1 > 1) = decide (x > 0)
      by_cases c : x > 0
      · rw [decide_eq_true c, decide_eq_true (by omega)]
      · rw [decide_eq_false c, decide_eq_false (by omega)]
    have b : ([z].filter (fun x => decide (x > 0))).filter (fun z => decide (z > 1)) = [] := by
      rcases hz with rfl | rfl <;> rfl
    rw [a, b, List.map_nil, List.append_nil]
    have c : (fun x : Int => x - 1) ∘ (fun x => x + 1) = id := by
      funext x
      show x + 1 - 1 = x
      omega
    rw [c, List.map_id]
  have hlen : ((ofMarks (l ++ [z])).length : Int) = (l.length : Int) + z := by
    rw [e1, List.length_append, List.length_map, mk_length]
    rcases hz with rfl | rfl
    · show ((l.length + 0 : Nat) : Int) = (l.length : Int) + 0
      omega
    · show ((l.length + 1 : Nat) : Int) = (l.length : Int) + 1
      omega
  have hpos : (l.length : Int) + z > 0 := by
    obtain ⟨b0, b1⟩ := bits_sum_range hl
    rw [List.sum_append, List.sum_cons, List.sum_nil] at h1
    omega
  unfold turn
  rw [hd, hlen]
  have e2 : ofMarks (z :: l) = ((l.length : Int) + z) :: ofMarks l := by
    show (((l.length : Int) + z) :: mk l).filter _ = _
    rw [List.filter_cons, if_pos (decide_eq_true hpos)] <;> rfl
  rw [e2]
  cases hol : ofMarks l with
  | nil => rfl
  | cons y r =>
    unfold insD
    rw [if_neg]
    have hy : y ∈ mk l := (List.mem_filter.mp (show y ∈ ofMarks l by rw [hol]; exact List.mem_cons_self ..)).1
    have := (k1 y hy).2
    omega
/-! ### turns one behind another -/
def turnN : Nat → List Int → List Int
  | 0, x => x
  | n + 1, x => turnN n (turn x)
theorem turnN_succ : ∀ (n : Nat) (x : List Int), turnN (n + 1) x = turn (turnN n x)
  | 0, _ => rfl
  | n + 1, x => turnN_succ n (turn x)
theorem turnN_add : ∀ (a b : Nat) (x : List Int), turnN (a + b) x = turnN a (turnN b x)
  | a, 0, x => rfl
  | a, b + 1, x => turnN_add a b (turn x)
theorem turnN_set {n : Int} : ∀ {j : Nat} {x : List Int}, IsSet n x → IsSet n (turnN j x)
  | 0, _, h => h
  | j + 1, _, h => turnN_set (j := j) (turn_set h)
/-- a ring of d settings from x on -/
structure Ring (x : List Int) (d : Nat) : Prop where
  pos : 1 ≤ d
  back : turnN d x = x
  first : ∀ j, 0 < j → j < d → turnN j x ≠ x
theorem Ring.inj {x : List Int} {d : Nat} (h : Ring x d) {i j : Nat} (hij : i < j) (hj : j < d) : turnN i x ≠ turnN j x := fun e => by
  have h1 : turnN (d - i) (turnN i x) = x := by
    rw [← turnN_add, show d - i + i = d by omega, h.back]
  have h2 : turnN (d - i) (turnN j x) = turnN (j - i) x := by
    rw [← turnN_add, show d - i + j = (j - i) + d by omega, turnN_add, h.back]
  rw [e, h2] at h1
  exact h.first (j - i) (by omega) (by omega) h1
theorem least_of {p : Nat → Prop} : ∀ n : Nat, p n → ∃ d, d ≤ n ∧ p d ∧ ∀ j, j < d → ¬ p j := fun n => by
  induction n using Nat.strongRecOn with
  | ind n ih =>
    intro hn
    by_cases h : ∃ j, j < n ∧ p j
    · obtain ⟨j, hj, hp⟩ := h
      obtain ⟨d, h1, h2, h3⟩ := ih j hj hp
      exact ⟨d, by omega, h2, h3⟩
    · exact ⟨n, Nat.le_refl _, hn, fun j hj hp => h ⟨j, hj, hp⟩⟩
theorem ring_ex {x : List Int} {S : Nat} (h1 : 1 ≤ S) (h : turnN S x = x) : ∃ d, d ≤ S ∧ Ring x d := by
  obtain ⟨d, a, ⟨b1, b2⟩, c⟩ := least_of (p := fun d => 1 ≤ d ∧ turnN d x = x) S ⟨h1, h⟩
  exact ⟨d, a, b1, b2, fun j h0 hj e => c j hj ⟨h0, e⟩⟩
/-- the settings of a ring -/
def ringL (d : Nat) (x : List Int) : List (List Int) := (List.range d).map fun j => turnN j x
theorem ringL_succ (d : Nat) (x : List Int) : ringL (d + 1) x = ringL d x ++ [turnN d x] := by
  unfold ringL
  rw [List.range_succ, List.map_append] <;> rfl
theorem ringL_len (d : Nat) (x : List Int) : (ringL d x).length = d := by
  unfold ringL
  rw [List.length_map, List.length_range]
theorem mem_ringL {d : Nat} {x y : List Int} : y ∈ ringL d x ↔ ∃ j, j < d ∧ turnN j x = y := by
  unfold ringL
  simp only [List.mem_map, List.mem_range]
/-! ### marks turned round -/
def rot : List Int → List Int := fun ms => ms.getLast?.toList ++ ms.dropLast
theorem rot_snoc (l : List Int) (z : Int) : rot (l ++ [z]) = z :: l := by
  unfold rot
  rw [List.getLast?_concat, List.dropLast_concat] <;> rfl
def rotN : Nat → List Int → List Int
  | 0, x => x
  | n + 1, x => rot (rotN n x)
theorem rotN_split : ∀ (b a : List Int), ∀ j, j = b.length → rotN j (a ++ b) = b ++ a := by
  intro b a j
  induction j generalizing a b with
  | zero =>
    intro h
    have : b = [] := List.eq_nil_of_length_eq_zero h.symm
    subst this
    show a ++ [] = [] ++ a
    rw [List.append_nil, List.nil_append]
  | succ j ih =>
    intro h
    match b, h with
    | y :: r, h =>
      have e1 : a ++ y :: r = (a ++ [y]) ++ r := by rw [List.append_assoc] <;> rfl
      show rot (rotN j (a ++ y :: r)) = y :: r ++ a
      rw [e1, ih r (a ++ [y]) (by simpa using h), ← List.append_assoc, rot_snoc] <;> rfl
theorem rotN_len (ms : List Int) : rotN ms.length ms = ms := by
  have := rotN_split ms [] ms.length rfl
  rw [List.nil_append, List.append_nil] at this
  exact this
theorem snoc_of : ∀ {ms : List Int}, ms ≠ [] → ∃ l z, ms = l ++ [z] := fun {ms} h => ⟨ms.dropLast, ms.getLast h, (List.dropLast_concat_getLast h).symm⟩
theorem rot_facts {ms : List Int} (h : Bits ms) (h1 : 1 ≤ ms.sum) : Bits (rot ms) ∧ (rot ms).sum = ms.sum ∧ (rot ms).length = ms.length ∧ turn (ofMarks ms) = ofMarks (rot ms) := by
  obtain ⟨l, z, rfl⟩ := snoc_of (ms := ms) (fun e => by rw [e] at h1; exact absurd h1 (by decide))
  rw [rot_snoc]
  refine ⟨fun m hm => ?_, ?_, ?_, turn_marks h h1⟩
  · rcases List.mem_cons.mp hm with rfl | hm
    · exact h m (List.mem_append_right _ (List.mem_singleton.mpr rfl))
    · exact h m (List.mem_append_left _ hm)
  · rw [List.sum_cons, List.sum_append, List.sum_cons, List.sum_nil]
    omega
  · rw [List.length_cons, List.length_append, List.length_singleton]
theorem rotN_facts {ms : List Int} (h : Bits ms) (h1 : 1 ≤ ms.sum) : ∀ j, Bits (rotN j ms) ∧ (rotN j ms).sum = ms.sum ∧ (rotN j ms).length = ms.length ∧ turnN j (ofMarks ms) = ofMarks (rotN j ms)
  | 0 => ⟨h, rfl, rfl, rfl⟩
  | j + 1 => by
    obtain ⟨a, b, c, d⟩ := rotN_facts h h1 j
    obtain ⟨a', b', c', d'⟩ := rot_facts a (by omega)
    refine ⟨a', by show (rot (rotN j ms)).sum = _; omega, by show (rot (rotN j ms)).length = _; omega, ?_⟩
    rw [turnN_succ, d, d'] <;> rfl
theorem ofMarks_ring {ms : List Int} (h : Bits ms) (h1 : 1 ≤ ms.sum) : ∃ d, d ≤ ms.length ∧ Ring (ofMarks ms) d := by
  have hl : 1 ≤ ms.length := by
    have := bits_sum_range h
    omega
  refine ring_ex hl ?_
  rw [(rotN_facts h h1 ms.length).2.2.2, rotN_len]

/-! ### lists of ints compared -/
theorem dpAll_ints {K : PySem.W.Frag} {H : Hp} : ∀ ns : List Int, DpAll K H (ns.map V.int) (ns.map PyData.int)
  | [] => .nil
  | n :: r => .cons (.int n) (dpAll_ints r)
theorem dp_ints {K : PySem.W.Frag} {H : Hp} {a : Addr} {ns : List Int} (h : SqL K H a (ns.map V.int)) : Dp K H (.ref a) (.list (ns.map PyData.int)) := .lst h (dpAll_ints ns)
theorem sh_all_ints : ∀ ns : List Int, PyData.canLayAll0 (ns.map PyData.int) = true ∧ PyData.depthAll (ns.map PyData.int) = 0
  | [] => ⟨rfl, rfl⟩
  | n :: r => by
    obtain ⟨h1, h2⟩ := sh_all_ints r
    refine ⟨?_, ?_⟩
    · rw [List.map_cons, PyData.canLayAll0, h1] <;> rfl
    · rw [List.map_cons, PyData.depthAll, h2] <;> rfl
theorem sh_ints (ns : List Int) : SeqAt.shaped (.list (ns.map PyData.int)) = true := by
  obtain ⟨h1, h2⟩ := sh_all_ints ns
  unfold SeqAt.shaped
  rw [PyData.canLay0, PyData.depth, h1, h2] <;> rfl
theorem eqv_all_ints : ∀ ns ms : List Int, PyData.eqvAll (ns.map PyData.int) (ms.map PyData.int) = decide (ns = ms)
  | [], [] => by rw [List.map_nil, PyData.eqvAll] <;> rfl
  | [], m :: ms => by rw [List.map_nil, List.map_cons, PyData.eqvAll] <;> simp
  | n :: ns, [] => by rw [List.map_nil, List.map_cons, PyData.eqvAll] <;> simp
  | n :: ns, m :: ms => by
    rw [List.map_cons, List.map_cons, PyData.eqvAll, eqv_all_ints ns ms, PyData.eqv]
    by_cases e : n = m
    · subst e
      simp
    · simp [e]
theorem eqv_ints (ns ms : List Int) : PyData.eqv (.list (ns.map PyData.int)) (.list (ms.map PyData.int)) = decide (ns = ms) := by
  rw [PyData.eqv]
  exact eqv_all_ints ns ms
/-! ### a list that is looked at place by place -/
def Adj (ns : List Int) (i : Nat) : Prop := ∀ j, j < i → ∀ x, ns[j]? = some x → 1 ≤ x ∧ ∀ y, 0 < j → ns[j - 1]? = some y → x ≤ y
theorem falls_of_adj : ∀ {ns : List Int}, (∀ j x y, ns[j + 1]? = some x → ns[j]? = some y → x ≤ y) → Falls ns
  | [], _ => List.Pairwise.nil
  | [_], _ => List.pairwise_singleton _ _
  | a :: b :: r, h => by
    have ih : Falls (b :: r) := falls_of_adj fun j x y hx hy => h (j + 1) x y hx hy
    have hab : b ≤ a := h 0 b a rfl rfl
    refine List.pairwise_cons.mpr ⟨fun z hz => ?_, ih⟩
    rcases List.mem_cons.mp hz with rfl | hz
    · exact hab
    · have := (List.pairwise_cons.mp ih).1 z hz
      show z ≤ a
      omega
theorem good_adj {ns : List Int} : Good ns ↔ ns ≠ [] ∧ Adj ns ns.length := by
  constructor
  · intro h
    refine ⟨h.ne, fun j hj x hx => ⟨h.pos x (List.mem_of_getElem? hx), fun y h0 hy => ?_⟩⟩
    obtain ⟨i, rfl⟩ : ∃ i, j = i + 1 := ⟨j - 1, by omega⟩
    obtain ⟨a1, a2⟩ := List.getElem?_eq_some_iff.mp hx
    obtain ⟨b1, b2⟩ := List.getElem?_eq_some_iff.mp hy
    have := List.pairwise_iff_getElem.mp h.falls i (i + 1) (by omega) a1 (by omega)
    rw [← a2, ← b2]
    exact this
  · rintro ⟨h0, h⟩
    refine ⟨fun x hx => ?_, falls_of_adj fun j x y hx hy => ?_, h0⟩
    · obtain ⟨j, hj⟩ := List.getElem?_of_mem hx
      exact (h j (List.getElem?_eq_some_iff.mp hj).1 x hj).1
    · exact (h (j + 1) (List.getElem?_eq_some_iff.mp hx).1 x hx).2 y (by omega) hy
theorem insD_at {x : Int} : ∀ {l : List Int} {j : Nat}, j ≤ l.length → (∀ i y, i < j → l[i]? = some y → y > x) → (∀ y, l[j]? = some y → ¬ y > x) → insD x l = l.take j ++ [x] ++ l.drop j
  | [], 0, _, _, _ => rfl
  | [], j + 1, h, _, _ => by simp at h
  | a :: r, 0, _, _, h => by
    unfold insD
    rw [if_neg (h a rfl)] <;> rfl
  | a :: r, j + 1, hj, h1, h2 => by
    unfold insD
    rw [if_pos (h1 0 a (by omega) rfl), insD_at (l := r) (j := j) (by simpa using hj) (fun i y hi hy => h1 (i + 1) y (by omega) hy) h2] <;> rfl

/-! ### lists of lists -/
def LLs (H : Hp) : List Addr → List (List Int) → Prop
  | [], [] => True
  | a :: as, n :: ns => IL H a n ∧ LLs H as ns
  | _, _ => False
theorem LLs.same {H H' : Hp} (e : Same H H') : ∀ {as : List Addr} {ns : List (List Int)}, LLs H as ns → LLs H' as ns
  | [], [], _ => trivial
  | _ :: _, _ :: _, h => ⟨e _ _ h.1, h.2.same e⟩
  | [], _ :: _, h => h.elim
  | _ :: _, [], h => h.elim
theorem LLs.upd {H : Hp} {p : Addr} {o : HO} : ∀ {as : List Addr} {ns : List (List Int)}, (∀ a ∈ as, a ≠ p) → LLs H as ns → LLs (upd H p o) as ns
  | [], [], _, _ => trivial
  | a :: _, _ :: _, hn, h => ⟨by show L2.upd _ _ _ _ = _; rw [upd_ne (hn a (List.mem_cons_self ..))]; exact h.1, h.2.upd fun b hb => hn b (List.mem_cons_of_mem _ hb)⟩
  | [], _ :: _, _, h => h.elim
  | _ :: _, [], _, h => h.elim
theorem LLs.len {H : Hp} : ∀ {as : List Addr} {ns : List (List Int)}, LLs H as ns → as.length = ns.length
  | [], [], _ => rfl
  | _ :: _, _ :: _, h => congrArg (· + 1) h.2.len
  | [], _ :: _, h => h.elim
  | _ :: _, [], h => h.elim
theorem LLs.get {H : Hp} : ∀ {as : List Addr} {ns : List (List Int)} {i : Nat} {a : Addr}, LLs H as ns → as[i]? = some a → ∃ n, ns[i]? = some n ∧ IL H a n
  | [], [], _, _, _, h => by simp at h
  | b :: _, m :: _, 0, a, h, e => by
    have : b = a := Option.some.inj e
    subst this
    exact ⟨m, rfl, h.1⟩
  | _ :: _, _ :: _, i + 1, a, h, e => LLs.get (i := i) h.2 e
  | [], _ :: _, _, _, h, _ => h.elim
  | _ :: _, [], _, _, h, _ => h.elim
theorem LLs.app {H : Hp} : ∀ {as bs : List Addr} {ns ms : List (List Int)}, LLs H as ns → LLs H bs ms → LLs H (as ++ bs) (ns ++ ms)
  | [], _, [], _, _, g => g
  | _ :: _, _, _ :: _, _, h, g => ⟨h.1, h.2.app g⟩
  | [], _, _ :: _, _, h, _ => h.elim
  | _ :: _, _, [], _, h, _ => h.elim
theorem LLs.in_ {H : Hp} : ∀ {as : List Addr} {ns : List (List Int)} {a : Addr}, LLs H as ns → a ∈ as → ∃ n, n ∈ ns ∧ IL H a n := fun h ha => by
  obtain ⟨i, hi⟩ := List.getElem?_of_mem ha
  obtain ⟨n, e, q⟩ := h.get hi
  exact ⟨n, List.mem_of_getElem? e, q⟩
/-- a list of lists -/
def LL (H : Hp) (a : Addr) (as : List Addr) (ns : List (List Int)) : Prop := H a = some (.lst (as.map V.ref)) ∧ LLs H as ns
/-- a new list of new lists -/
abbrev NLL (Q : VK) (H : Hp) (ns : List (List Int)) : Prop := ∀ (H' : Hp) (p : Addr) (as : List Addr), Same H H' → H p = none → (∀ a ∈ as, H a = none) → LL H' p as ns → Q (.ref p) H'
theorem get_ref {as : List Addr} {i : Nat} {x : V} (h : (as.map V.ref)[i]? = some x) : ∃ z, as[i]? = some z ∧ x = .ref z := by
  rw [List.getElem?_map] at h
  cases e : as[i]? with
  | none => rw [e] at h; cases h
  | some z => rw [e] at h; exact ⟨z, rfl, (Option.some.inj h).symm⟩
theorem ref_get {as : List Addr} {i : Nat} {z : Addr} (h : as[i]? = some z) : (as.map V.ref)[i]? = some (.ref z) := by
  rw [List.getElem?_map, h] <;> rfl
theorem rlen {as : List Addr} : (as.map V.ref).length = as.length := List.length_map _
theorem two_pow_small {c : Nat} (h : c ≤ 20) : 2 ^ c ≤ 1048576 := Nat.pow_le_pow_right (by decide) h
theorem smallM {n : Nat} (h : n ≤ 1048576) : n < sizeLine := Nat.lt_of_le_of_lt h (by decide)

/-! ### lists of lists compared -/
def toD (n : List Int) : PyData := .list (n.map PyData.int)
theorem dpAll_lls {K : PySem.W.Frag} {H : Hp} : ∀ {as : List Addr} {nss : List (List Int)}, LLs H as nss → DpAll K H (as.map V.ref) (nss.map toD)
  | [], [], _ => .nil
  | _ :: _, _ :: _, h => .cons (dp_ints (sq h.1)) (dpAll_lls h.2)
  | [], _ :: _, h => h.elim
  | _ :: _, [], h => h.elim
theorem dp_ll {K : PySem.W.Frag} {H : Hp} {a : Addr} {as : List Addr} {nss : List (List Int)} (h : LL H a as nss) : Dp K H (.ref a) (.list (nss.map toD)) := .lst (sq h.1) (dpAll_lls h.2)
theorem sh_all_lls : ∀ nss : List (List Int), PyData.canLayAll0 (nss.map toD) = true ∧ PyData.depthAll (nss.map toD) ≤ 1
  | [] => ⟨rfl, Nat.zero_le _⟩
  | n :: r => by
    obtain ⟨h1, h2⟩ := sh_all_lls r
    obtain ⟨g1, g2⟩ := sh_all_ints n
    refine ⟨?_, ?_⟩
    · rw [List.map_cons, PyData.canLayAll0, h1]
      unfold toD
      rw [PyData.canLay0, g1] <;> rfl
    · rw [List.map_cons, PyData.depthAll]
      have : PyData.depth (toD n) = 1 := by
        unfold toD
        rw [PyData.depth, g2]
      omega
theorem sh_lls (nss : List (List Int)) : SeqAt.shaped (.list (nss.map toD)) = true := by
  obtain ⟨h1, h2⟩ := sh_all_lls nss
  unfold SeqAt.shaped
  rw [PyData.canLay0, PyData.depth, h1]
  exact decide_eq_true (by omega)
theorem any_lls (n : List Int) : ∀ nss : List (List Int), ((nss.map toD).any fun z => PyData.eqv z (toD n)) = decide (n ∈ nss)
  | [] => rfl
  | m :: r => by
    rw [List.map_cons, List.any_cons, any_lls n r]
    unfold toD
    rw [eqv_ints]
    by_cases e : m = n
    · subst e
      simp
    · by_cases e2 : n ∈ r
      · simp [e, e2]
      · have e3 : ¬ n = m := fun h => e h.symm
        simp [e, e2, e3]
theorem eqv_all_lls : ∀ ns ms : List (List Int), PyData.eqvAll (ns.map toD) (ms.map toD) = decide (ns = ms)
  | [], [] => by rw [List.map_nil, PyData.eqvAll] <;> rfl
  | [], m :: ms => by rw [List.map_nil, List.map_cons, PyData.eqvAll] <;> simp
  | n :: ns, [] => by rw [List.map_nil, List.map_cons, PyData.eqvAll] <;> simp
  | n :: ns, m :: ms => by
    rw [List.map_cons, List.map_cons, PyData.eqvAll, eqv_all_lls ns ms]
    unfold toD
    rw [eqv_ints]
    by_cases e : n = m
    · subst e
      simp
    · simp [e]
theorem eqv_lls (ns ms : List (List Int)) : PyData.eqv (.list (ns.map toD)) (.list (ms.map toD)) = decide (ns = ms) := by
  rw [PyData.eqv]
  exact eqv_all_lls ns ms
theorem LLs.ne {H : Hp} {p : Addr} (h : H p = none) {as : List Addr} {nss : List (List Int)} (q : LLs H as nss) : ∀ a ∈ as, a ≠ p := fun a ha => by
  obtain ⟨m, _, em⟩ := q.in_ ha
  exact ne_of_none em h
/-- a list of refs that is not empty is no list of ints -/
theorem ref_ne_int {H : Hp} {f a : Addr} {fs : List Addr} {x : List Int} (hf : H f = some (.lst (fs.map V.ref))) (ha : H a = some (.lst (x.map V.int))) (h : 0 < fs.length) : f ≠ a := fun e => by
  rw [e, ha] at hf
  have h2 := Option.some.inj hf
  have h3 : x.map V.int = fs.map V.ref := by
    injection h2
  have g0 : fs[0]? = some (fs[0]'h) := List.getElem?_eq_getElem h
  have h4 := congrArg (fun l => l[0]?) h3
  simp only [List.getElem?_map, g0, Option.map_some] at h4
  cases hx0 : x[0]? with
  | none =>
    rw [hx0] at h4
    cases h4
  | some z =>
    rw [hx0] at h4
    cases h4
theorem cut_butlast (xs : List V) : cutV xs none (some (-1)) = xs.dropLast := by
  unfold cutV
  rw [HT.sIx_none, show HT.sIx xs.length xs.length (some (-1)) = xs.length - 1 by
    show (if (-1 : Int) < 0 then ((-1 : Int) + (xs.length : Int)).toNat else min (-1 : Int).toNat xs.length) = xs.length - 1
    rw [if_pos (by decide)]
    omega, Nat.sub_zero, List.drop_zero, List.dropLast_eq_take]
/-- the script and a new object -/
theorem SL.apart {K : PySem.W.Frag} {H : Hp} {a D : Addr} {ns : List Int} (h : SL K H a ns) (n : H D = none) : a ≠ D ∨ ∀ H, SL K H a ns := by
  rcases h with (e | ⟨o, e⟩) | e
  · exact .inl (ne_of_none e n)
  · exact .inl (ne_of_none e n)
  · exact .inr fun _ => .inr e
theorem SL.upd {K : PySem.W.Frag} {H : Hp} {a D : Addr} {ns : List Int} {o : HO} (h : SL K H a ns) (d : a ≠ D ∨ ∀ H, SL K H a ns) : SL K (upd H D o) a ns := by
  rcases d with d | d
  · rcases h with (e | ⟨o', e⟩) | e
    · exact .inl (.inl (by rw [upd_ne d]; exact e))
    · exact .inl (.inr ⟨o', by rw [upd_ne d]; exact e⟩)
    · exact .inr e
  · exact d _

/-! ### the text -/
def top (i : Nat) : Stmt := PySem.Challenge.pw_pilewheel_k08_whole_marks_go_round.main.body.getD i (.Pass ⟨0, 0, 0, 0⟩)
abbrev s_is_setting : Stmt := top 7
abbrev s_must_be : Stmt := top 8
abbrev s_turned_by : Stmt := top 9
abbrev s_turned : Stmt := top 10
abbrev s_stair_of : Stmt := top 12
abbrev s_marks_by : Stmt := top 13
abbrev s_marks_of : Stmt := top 14
abbrev s_setting_by : Stmt := top 15
abbrev s_setting_of : Stmt := top 16
abbrev s_ring_by : Stmt := top 17
abbrev s_ring_of : Stmt := top 18
abbrev s_law_cell : Stmt := top 20
abbrev s_law_ints : Stmt := top 21
abbrev s_law_lists_like : Stmt := top 22
abbrev s_law_next : Stmt := top 23
abbrev s_law_fallen : Stmt := top 24
abbrev s_law_turned : Stmt := top 25
abbrev s_law_stair : Stmt := top 26
abbrev s_law_by_marks : Stmt := top 27
abbrev s_law_drawn_marks : Stmt := top 28
abbrev s_law_elder : Stmt := top 29
abbrev s_law_drawn_piles : Stmt := top 30
abbrev s_law_setting : Stmt := top 31
abbrev s_law : Stmt := top 32
structure Txt (K : PySem.W.Frag) (mg : Str → Option Value) : Prop where
  d_is_setting : DefAt K mg "is_setting" s_is_setting
  d_must_be : DefAt K mg "must_be" s_must_be
  d_turned_by : DefAt K mg "turned_by" s_turned_by
  d_turned : DefAt K mg "turned" s_turned
  d_stair_of : DefAt K mg "stair_of" s_stair_of
  d_marks_by : DefAt K mg "marks_by" s_marks_by
  d_marks_of : DefAt K mg "marks_of" s_marks_of
  d_setting_by : DefAt K mg "setting_by" s_setting_by
  d_setting_of : DefAt K mg "setting_of" s_setting_of
  d_ring_by : DefAt K mg "ring_by" s_ring_by
  d_ring_of : DefAt K mg "ring_of" s_ring_of
  d_law_cell : DefAt K mg "_law_cell" s_law_cell
  d_law_ints : DefAt K mg "_law_ints" s_law_ints
  d_law_lists_like : DefAt K mg "_law_lists_like" s_law_lists_like
  d_law_next : DefAt K mg "_law_next" s_law_next
  d_law_fallen : DefAt K mg "_law_fallen" s_law_fallen
  d_law_turned : DefAt K mg "_law_turned" s_law_turned
  d_law_stair : DefAt K mg "_law_stair" s_law_stair
  d_law_by_marks : DefAt K mg "_law_by_marks" s_law_by_marks
  d_law_drawn_marks : DefAt K mg "_law_drawn_marks" s_law_drawn_marks
  d_law_elder : DefAt K mg "_law_elder" s_law_elder
  d_law_drawn_piles : DefAt K mg "_law_drawn_piles" s_law_drawn_piles
  d_law_setting : DefAt K mg "_law_setting" s_law_setting
  c_MOST : ∃ u, mg "MOST" = some u ∧ RelV (.int 100) u
  m_bool : mg "bool" = none
  m_int : mg "int" = none
  m_isinstance : mg "isinstance" = none
  m_len : mg "len" = none
  m_list : mg "list" = none
  m_min : mg "min" = none
  m_range : mg "range" = none
  m_reversed : mg "reversed" = none
  m_sorted : mg "sorted" = none
  m_sum : mg "sum" = none
  m_zip : mg "zip" = none

section
variable {P : Program} {w : World} {K : PySem.W.Frag} {mg : Str → Option Value} {base : Heap}
theorem sc_stair_of : FnScope ["coins", "stair"] ["coins"] (defScope s_stair_of) := ⟨rfl, rfl, rfl, by decide +kernel, rfl, by decide +kernel, by decide +kernel⟩
def sp_stair_of : Sp := fun vs H Q _ => ∃ n : Nat, vs = [.int n] ∧ 1 ≤ n ∧ n ≤ 100000 ∧ Q (.int (stair n)) H
theorem ok_stair_of (T : Txt K mg) : Cal P w K mg base CX0 1 "stair_of" ["coins"] sp_stair_of := by
  refine cal_mk T.d_stair_of sc_stair_of ?_ (fun _ _ _ _ _ _ us hl => match us, hl with | [_], _ => rfl) (fun f cdv A outer s H vs Q E hr h => ?_)
  · intro vs H Q E h
    obtain ⟨n, rfl, _⟩ := h
    rfl
  obtain ⟨n, rfl, h1, h2, q⟩ := h
  refine ⟨_, (pss_cons (ps_set (i := 1) sc_stair_of.nd rfl (Or.inl rfl) pe_int)
      (pss_cons (ps_while PassesOwn.never (pt_cmpR op_lt (pe_op op_fdiv (pe_op op_mul (pv 1) (pe_op op_add (pv 1) pe_int)) pe_int) (pv 0) (nomark _))
      (pss_one (ps_set (i := 1) sc_stair_of.nd rfl (Or.inl rfl) (pe_op op_add (pv 1) pe_int))))
      (pss_one (ps_ret (pv 1))))), ?_⟩
  refine ⟨fun m σ H' => ∃ s : Nat, σ = [some (.int n), some (.int s)] ∧ H' = H ∧ m = 2 * n + 2 - s ∧ 1 ≤ s ∧ (s - 1) * s < 2 * n, ⟨_, 1, rfl, rfl, rfl, Nat.le_refl _, by omega⟩, fun m σ H' hW => ?_⟩
  obtain ⟨s, rfl, rfl, rfl, g1, g2⟩ := hW
  have g3 : s ≤ 2 * n + 1 := by
    have := Nat.mul_le_mul_left (s - 1) g1
    omega
  have hh := half_sq s
  refine ⟨_, rfl, _, rfl, _, _, rfl, rfl, _, _, rfl, rfl, .inl ⟨by omega, by omega⟩, _, _, rfl, rfl, ⟨by decide, by decide⟩, _, rfl, _, _, rfl, rfl, _, rfl, ite2 (fun c => ?_) (fun c => ?_)⟩
  · have c' : (s : Int) * ((s : Int) + 1) / 2 < (n : Int) := of_decide_eq_true c
    have c1 : ((s * (s + 1) / 2 : Nat) : Int) < (n : Int) := c'
    have c2 : s * (s + 1) < 2 * n := by omega
    refine ⟨fun σ' H2 => ∃ s' : Nat, s' = s + 1 ∧ σ' = [some (.int n), some (.int s')] ∧ H2 = H', fun σ' H2 h => ?_, ?_⟩
    · obtain ⟨s', rfl, e1, e2⟩ := h
      exact ⟨2 * n + 2 - (s + 1), by omega, s + 1, e1, e2, rfl, by omega, by rw [Nat.add_sub_cancel]; exact c2⟩
    · exact ⟨_, rfl, _, _, rfl, rfl, s + 1, rfl, rfl, rfl⟩
  · have c' : ¬ (s : Int) * ((s : Int) + 1) / 2 < (n : Int) := fun h => c (decide_eq_true h)
    have c1 : ¬ ((s * (s + 1) / 2 : Nat) : Int) < (n : Int) := c'
    have c2 : 2 * n ≤ s * (s + 1) := by omega
    rw [← stair_uniq h1 g1 g2 c2] at q
    exact ⟨_, rfl, q⟩

end

section
variable {P : Program} {w : World} {K : PySem.W.Frag} {mg : Str → Option Value} {base : Heap}
theorem sc_marks_by : FnScope ["piles", "stair", "found", "k", "pile", "mark"] ["piles"] (defScope s_marks_by) := ⟨rfl, rfl, rfl, by decide +kernel, rfl, by decide +kernel, by decide +kernel⟩
theorem marksAt_len (S : Nat) (ns : List Int) : (marksAt S ns).length = S := by
  unfold marksAt
  rw [List.length_map, List.length_range]
theorem marksAt_get {S : Nat} {ns : List Int} {k : Nat} (h : k < S) : (marksAt S ns)[k]? = some (ns.getD k 0 - ((S : Int) - 1 - (k : Int))) := by
  unfold marksAt
  rw [List.getElem?_map, List.getElem?_range h] <;> rfl
def sp_marks_by : Sp := fun vs H Q _ => ∃ (a : Addr) (ns : List Int), vs = [.ref a] ∧ IL H a ns ∧ Good ns ∧ ns.sum ≤ 100 ∧ NL Q H (marksBy ns)
theorem ok_marks_by (T : Txt K mg) : Cal P w K mg base CX0 2 "marks_by" ["piles"] sp_marks_by := by
  have C_stair_of := ok_stair_of (P := P) (w := w) (base := base) T
  refine cal_mk T.d_marks_by sc_marks_by ?_ (fun _ _ _ _ _ _ us hl => match us, hl with | [_], _ => rfl) (fun f cdv A outer s H vs Q E hr h => ?_)
  · intro vs H Q E h
    obtain ⟨a, ns, rfl, _⟩ := h
    rfl
  obtain ⟨a, ns, rfl, hS, hg, hs, q⟩ := h
  have hll := len_le_sum hg.pos
  have hne := List.length_pos_iff.mpr hg.ne
  refine ⟨_, (pss_cons (ps_set (i := 1) sc_marks_by.nd rfl (Or.inl rfl) (pe_callF C_stair_of (hr.mono (by decide)) (pa_cons (pe_callB (cr_sum rfl) (by rfl) T.m_sum (by decide +kernel) (pa_cons (pv 0) pa_nil)) pa_nil)))
      (pss_cons (ps_if (pt_cmpR op_gt (pe_callB call_len_seq (by rfl) T.m_len PySem.boot_len (pa_cons (pv 0) pa_nil)) (pv 1) (nomark _))
      (pss_one (ps_ret (pe_lst pa_nil))) pss_nil)
      (pss_cons (ps_set (i := 2) sc_marks_by.nd rfl (Or.inl rfl) (pe_lst pa_nil))
      (pss_cons (ps_for PassesOwn.never rfl (pi_range1 (by rfl) T.m_range (pa_cons (pv 1) pa_nil)) (pg_name (i := 3) sc_marks_by.nd rfl (Or.inl rfl))
      (pss_cons (ps_set (i := 4) sc_marks_by.nd rfl (Or.inl rfl) pe_int)
      (pss_cons (ps_if (pt_cmpR op_lt (pv 3) (pe_callB call_len_seq (by rfl) T.m_len PySem.boot_len (pa_cons (pv 0) pa_nil)) (nomark _))
      (pss_one (ps_set (i := 4) sc_marks_by.nd rfl (Or.inl rfl) (pe_ix ix_list (pv 0) (pv 3) (fun _ _ => rfl)))) pss_nil)
      (pss_cons (ps_set (i := 5) sc_marks_by.nd rfl (Or.inl rfl) (pe_op op_sub (pv 4) (pe_op op_sub (pe_op op_sub (pv 1) pe_int) (pv 3))))
      (pss_cons (ps_if (PW.pt (pw_or (pt_cmpR op_lt (pv 5) pe_int (nomark _)) (pw_or1 (pt_cmpR op_gt (pv 5) pe_int (nomark _)))))
      (pss_one (ps_ret (pe_lst pa_nil))) pss_nil)
      (pss_one (ps_expr (pe_bm PySem.F.plainAttrs_list PySem.F.slot_list_append PySem.F.type_list_append mt_append (pv 2) (pa_cons (pv 5) pa_nil)))))))))
      (pss_one (ps_ret (pv 2))))))), ?_⟩
  obtain ⟨n, en⟩ : ∃ n : Nat, ns.sum = n := ⟨ns.sum.toNat, by omega⟩
  refine ⟨_, rfl, a, ns, rfl, sq hS, n, congrArg (fun z => [V.int z]) en, by omega, by omega, ?_⟩
  have hst := stair_le (n := n) (by omega) (b := 14) (by omega) (by omega)
  have hst1 := (stair_spec (n := n) (by omega)).1
  unfold marksBy at q
  rw [en, Int.toNat_natCast] at q
  generalize stair n = S at *
  refine ⟨_, rfl, a, _, rfl, .inl (sq hS), _, rfl, _, _, rfl, rfl, _, rfl, ite2 (fun c => ?_) (fun c => ?_)⟩
  · have c' : (S : Int) < ((ns.map V.int).length : Int) := of_decide_eq_true c
    rw [nlen] at c'
    rw [if_pos (by omega)] at q
    exact ⟨Nat.zero_le _, fun p np => q _ p (same_new np _) np upd_same⟩
  · have c' : ¬ (S : Int) < ((ns.map V.int).length : Int) := fun h => c (decide_eq_true h)
    rw [nlen] at c'
    rw [if_neg (by omega)] at q
    refine ⟨Nat.zero_le _, fun D nD => ⟨_, rfl, S, rfl, by omega, by omega, for_range (lo := 0) (n := (S : Int).toNat) (fun i σ H' => ∃ y1 y2 y3, σ = [some (.ref a), some (.int S), some (.ref D), y1, y2, y3] ∧ Same H H' ∧ IL H' D ((marksAt S ns).take i) ∧ ∀ m ∈ (marksAt S ns).take i, 0 ≤ m ∧ m ≤ 1) ⟨none, none, none, rfl, same_new nD _, upd_same, fun m hm => by cases hm⟩ ?_ ?_⟩⟩
    · intro i σ H' hi h
      obtain ⟨y1, y2, y3, rfl, sm, eD, hall⟩ := h
      have hi : i < S := by omega
      have gm := marksAt_get (ns := ns) hi
      have bad : (¬ (0 ≤ ns.getD i 0 - ((S : Int) - 1 - (i : Int)) ∧ ns.getD i 0 - ((S : Int) - 1 - (i : Int)) ≤ 1)) → NL Q H [] := fun hb => by
        rw [if_neg] at q
        · exact q
        · intro e
          have := isBits_iff.mp e _ (List.mem_of_getElem? gm)
          omega
      -- pile
      have hlm : ((marksAt S ns).take i).length = i := by
        rw [List.length_take, marksAt_len]
        omega
      have hnext : ∀ m ∈ (marksAt S ns).take i ++ [ns.getD i 0 - ((S : Int) - 1 - (i : Int))], 0 ≤ ns.getD i 0 - ((S : Int) - 1 - (i : Int)) → ns.getD i 0 - ((S : Int) - 1 - (i : Int)) ≤ 1 → 0 ≤ m ∧ m ≤ 1 := fun m hm h0 h1 => by
        rcases List.mem_append.mp hm with hm | hm
        · exact hall m hm
        · rw [List.mem_singleton.mp hm]
          exact ⟨h0, h1⟩
      refine ⟨_, rfl, _, rfl, a, _, rfl, .inl (sq (sm _ _ hS)), _, _, rfl, rfl, _, rfl, ite2 (fun c => ?p1) (fun c => ?p2)⟩
      case' p1 =>
        have ci : (0 : Int) + (i : Int) < ((ns.map V.int).length : Int) := of_decide_eq_true c
        rw [nlen] at ci
        have hil : i < ns.length := by omega
        have gi : ns[i]? = some ns[i] := List.getElem?_eq_getElem hil
        have ep : ns[i] = ns.getD i 0 := by rw [List.getD_eq_getElem?_getD, gi] <;> rfl
        refine ⟨_, rfl, _, rfl, a, _, _, .int ns[i], rfl, rfl, sq (sm _ _ hS), at_of (j := i) (by omega) (int_get gi), ?_⟩
      case' p2 =>
        have ci : ¬ (0 : Int) + (i : Int) < ((ns.map V.int).length : Int) := fun h => c (decide_eq_true h)
        rw [nlen] at ci
        have ep : (0 : Int) = ns.getD i 0 := by rw [List.getD_eq_getElem?_getD, List.getElem?_eq_none (by omega)] <;> rfl
      all_goals
        refine ⟨_, rfl, _, rfl, _, _, rfl, rfl, _, rfl, _, _, rfl, rfl, _, _, rfl, rfl, ?_⟩
        refine ⟨_, rfl, _, _, rfl, rfl, _, rfl, ite2 (fun d => ?_) (fun d => ⟨_, rfl, _, _, rfl, rfl, _, rfl, ite2 (fun e => ?_) (fun e => ?_)⟩)⟩
        · refine ⟨Nat.zero_le _, fun p np => bad ?_ _ p (sm.trans (same_new np _)) (sm.free np) upd_same⟩
          intro hb
          have d1 := of_decide_eq_true d
          first
            | (have d2 : ns[i] - ((S : Int) - 1 - (0 + (i : Int))) < 0 := d1; omega)
            | (have d2 : (0 : Int) - ((S : Int) - 1 - (0 + (i : Int))) < 0 := d1; omega)
        · refine ⟨Nat.zero_le _, fun p np => bad ?_ _ p (sm.trans (same_new np _)) (sm.free np) upd_same⟩
          intro hb
          have d1 := of_decide_eq_true e
          first
            | (have d2 : (1 : Int) < ns[i] - ((S : Int) - 1 - (0 + (i : Int))) := d1; omega)
            | (have d2 : (1 : Int) < (0 : Int) - ((S : Int) - 1 - (0 + (i : Int))) := d1; omega)
        · have ev : ∀ z : Int, z = ns.getD i 0 → z - ((S : Int) - 1 - (0 + (i : Int))) = ns.getD i 0 - ((S : Int) - 1 - (i : Int)) := fun z hz => by omega
          have h0 : 0 ≤ ns.getD i 0 - ((S : Int) - 1 - (i : Int)) := by
            have d1 := fun h => d (decide_eq_true h)
            first
              | (have d2 : ¬ ns[i] - ((S : Int) - 1 - (0 + (i : Int))) < 0 := d1; omega)
              | (have d2 : ¬ (0 : Int) - ((S : Int) - 1 - (0 + (i : Int))) < 0 := d1; omega)
          have h1 : ns.getD i 0 - ((S : Int) - 1 - (i : Int)) ≤ 1 := by
            have d1 := fun h => e (decide_eq_true h)
            first
              | (have d2 : ¬ (1 : Int) < ns[i] - ((S : Int) - 1 - (0 + (i : Int))) := d1; omega)
              | (have d2 : ¬ (1 : Int) < (0 : Int) - ((S : Int) - 1 - (0 + (i : Int))) := d1; omega)
          refine ⟨_, rfl, .inl ⟨rfl, _, sq eD⟩, _, rfl, D, _, _, rfl, rfl, eD, by rw [nlen, hlm]; exact smallL (by omega), ?_⟩
          refine ⟨_, _, _, rfl, same_mut sm nD _, ?_, fun m hm => ?_⟩
          · show upd _ _ _ _ = _
            rw [upd_same, take_snoc gm, List.map_append, ← ev _ ep] <;> rfl
          · rw [take_snoc gm] at hm
            exact hnext m hm h0 h1
    · intro σ H' h
      obtain ⟨y1, y2, y3, rfl, sm, eD, hall⟩ := h
      rw [Int.toNat_natCast, List.take_of_length_le (by rw [marksAt_len]; exact Nat.le_refl _)] at eD hall
      rw [if_pos (isBits_iff.mpr fun m hm => by have := hall m hm; omega)] at q
      exact ⟨_, rfl, q H' D sm nD eD⟩

end

section
variable {P : Program} {w : World} {K : PySem.W.Frag} {mg : Str → Option Value} {base : Heap}
theorem sc_is_setting : FnScope ["piles", "k"] ["piles"] (defScope s_is_setting) := ⟨rfl, rfl, rfl, by decide +kernel, rfl, by decide +kernel, by decide +kernel⟩
def sp_is_setting : Sp := fun vs H Q _ => ∃ (a : Addr) (ns : List Int), vs = [.ref a] ∧ IL H a ns ∧ ns.length ≤ 1000 ∧ ∀ b : Bool, (b = true ↔ Good ns ∧ ns.sum ≤ 100) → Q (.bl b) H
theorem ok_is_setting (T : Txt K mg) : Cal P w K mg base CX0 1 "is_setting" ["piles"] sp_is_setting := by
  refine cal_mk T.d_is_setting sc_is_setting ?_ (fun _ _ _ _ _ _ us hl => match us, hl with | [_], _ => rfl) (fun f cdv A outer s H vs Q E hr h => ?_)
  · intro vs H Q E h
    obtain ⟨a, ns, rfl, _⟩ := h
    rfl
  obtain ⟨a, ns, rfl, hS, hl, q⟩ := h
  refine ⟨_, (pss_cons (ps_if (PW.pt (pw_or (pt_cmpR op_lt (pe_callB call_len_seq (by rfl) T.m_len PySem.boot_len (pa_cons (pv 0) pa_nil)) pe_int (nomark _)) (pw_or1 (pt_cmpR op_gt (pe_callB (cr_sum rfl) (by rfl) T.m_sum (by decide +kernel) (pa_cons (pv 0) pa_nil)) (pe_globX T.c_MOST) (nomark _)))))
      (pss_one (ps_ret pe_bl)) pss_nil)
      (pss_cons (ps_for PassesOwn.never rfl (pi_range1 (by rfl) T.m_range (pa_cons (pe_callB call_len_seq (by rfl) T.m_len PySem.boot_len (pa_cons (pv 0) pa_nil)) pa_nil)) (pg_name (i := 1) sc_is_setting.nd rfl (Or.inl rfl))
      (pss_cons (ps_if (pt_cmpR op_lt (pe_ix ix_list (pv 0) (pv 1) (fun _ _ => rfl)) pe_int (nomark _))
      (pss_one (ps_ret pe_bl)) pss_nil)
      (pss_one (ps_if (PW.pt (pw_and (pt_cmpR op_gt (pv 1) pe_int (nomark _)) (pw_and1 (pt_cmpR op_gt (pe_ix ix_list (pv 0) (pv 1) (fun _ _ => rfl)) (pe_ix ix_list (pv 0) (pe_op op_sub (pv 1) pe_int) (fun _ _ => rfl)) (nomark _)))))
      (pss_one (ps_ret pe_bl)) pss_nil))))
      (pss_one (ps_ret pe_bl)))), ?_⟩
  have no : (¬ (Good ns ∧ ns.sum ≤ 100)) → Q (.bl false) H := fun h => q false ⟨fun z => (by cases z), fun z => absurd z h⟩
  refine ⟨_, rfl, a, _, rfl, .inl (sq hS), _, _, rfl, rfl, _, rfl, ite2 (fun c => ?_) (fun c => ⟨_, rfl, a, ns, rfl, sq hS, _, _, rfl, rfl, _, rfl, ite2 (fun c2 => ?_) (fun c2 => ?_)⟩)⟩
  · refine no fun h => ?_
    have c' : ((ns.map V.int).length : Int) < 1 := of_decide_eq_true c
    rw [nlen] at c'
    have := List.length_pos_iff.mpr h.1.ne
    omega
  · refine no fun h => ?_
    have c' : (100 : Int) < ns.sum := of_decide_eq_true c2
    omega
  · have c1' : ¬ ((ns.map V.int).length : Int) < 1 := fun h => c (decide_eq_true h)
    have c2' : ¬ (100 : Int) < ns.sum := fun h => c2 (decide_eq_true h)
    rw [nlen] at c1'
    refine ⟨_, rfl, a, _, rfl, .inl (sq hS), _, rfl, by rw [nlen]; omega, by rw [nlen]; omega, for_range (lo := 0) (n := ((ns.map V.int).length : Int).toNat) (fun i σ H' => ∃ y, σ = [some (.ref a), y] ∧ H' = H ∧ Adj ns i) ⟨none, rfl, rfl, fun j hj => by omega⟩ ?_ ?_⟩
    · intro i σ H' hi h
      obtain ⟨y, rfl, rfl, ha⟩ := h
      rw [nlen] at hi
      have hi : i < ns.length := by omega
      have gi : ns[i]? = some ns[i] := List.getElem?_eq_getElem hi
      have ai : atI (ns.map V.int) (0 + (i : Int)) = some (.int ns[i]) := at_of (j := i) (by omega) (int_get gi)
      refine ⟨_, rfl, _, rfl, a, _, _, .int ns[i], rfl, rfl, sq hS, ai, _, _, rfl, rfl, _, rfl, ite2 (fun d => ?_) (fun d => ?_)⟩
      · refine no fun h => ?_
        have d' : ns[i] < 1 := of_decide_eq_true d
        have := ((good_adj.mp h.1).2 i hi _ gi).1
        omega
      · have d' : ¬ ns[i] < 1 := fun h => d (decide_eq_true h)
        have more : (∀ y, 0 < i → ns[i - 1]? = some y → ns[i] ≤ y) → Adj ns (i + 1) := fun hy j hj x hx => by
          rcases Nat.lt_or_ge j i with l | l
          · exact ha j l x hx
          · obtain rfl : j = i := by omega
            obtain rfl : ns[j] = x := Option.some.inj (gi.symm.trans hx)
            exact ⟨by omega, hy⟩
        refine ⟨_, rfl, _, _, rfl, rfl, _, rfl, ite2 (fun e => ?_) (fun e => ?_)⟩
        · have e' : (0 : Int) < 0 + (i : Int) := of_decide_eq_true e
          have gp : ns[i - 1]? = some (ns[i - 1]'(by omega)) := List.getElem?_eq_getElem (by omega)
          refine ⟨_, rfl, _, rfl, a, _, _, .int ns[i], rfl, rfl, sq hS, ai, _, rfl, _, rfl, _, _, rfl, rfl, a, _, _, .int (ns[i - 1]'(by omega)), rfl, rfl, sq hS, at_of (j := i - 1) (by omega) (int_get gp), _, _, rfl, rfl, _, rfl, ite2 (fun f => ?_) (fun f => ?_)⟩
          · refine no fun h => ?_
            have f' : ns[i - 1]'(by omega) < ns[i] := of_decide_eq_true f
            have := ((good_adj.mp h.1).2 i hi _ gi).2 _ (by omega) gp
            omega
          · have f' : ¬ ns[i - 1]'(by omega) < ns[i] := fun h => f (decide_eq_true h)
            refine ⟨_, rfl, rfl, more fun y _ hy => ?_⟩
            rw [gp] at hy
            have := Option.some.inj hy
            omega
        · have e' : ¬ (0 : Int) < 0 + (i : Int) := fun h => e (decide_eq_true h)
          exact ⟨_, rfl, rfl, more fun y h0 _ => by omega⟩
    · intro σ H' h
      obtain ⟨y, rfl, rfl, ha⟩ := h
      rw [nlen, Int.toNat_natCast] at ha
      exact q true ⟨fun _ => ⟨good_adj.mpr ⟨fun e => by rw [e] at c1'; exact c1' (by decide), ha⟩, by omega⟩, fun _ => rfl⟩

end

section
variable {P : Program} {w : World} {K : PySem.W.Frag} {mg : Str → Option Value} {base : Heap}
theorem sc_must_be : FnScope ["piles"] ["piles"] (defScope s_must_be) := ⟨rfl, rfl, rfl, by decide +kernel, rfl, by decide +kernel, by decide +kernel⟩
/-- of a setting nothing is refused -/
def sp_must_be : Sp := fun vs H Q _ => ∃ (a : Addr) (ns : List Int), vs = [.ref a] ∧ IL H a ns ∧ Good ns ∧ ns.sum ≤ 100 ∧ Q .non H
theorem Good.le100 {ns : List Int} (h : Good ns) (h2 : ns.sum ≤ 100) : ns.length ≤ 100 := by
  have := len_le_sum h.pos
  omega
theorem ok_must_be (T : Txt K mg) : Cal P w K mg base CX0 2 "must_be" ["piles"] sp_must_be := by
  have C_is_setting := ok_is_setting (P := P) (w := w) (base := base) T
  refine cal_mk T.d_must_be sc_must_be ?_ (fun _ _ _ _ _ _ us hl => match us, hl with | [_], _ => rfl) (fun f cdv A outer s H vs Q E hr h => ?_)
  · intro vs H Q E h
    obtain ⟨a, ns, rfl, _⟩ := h
    rfl
  obtain ⟨a, ns, rfl, hS, hg, hs, q⟩ := h
  have hl := hg.le100 hs
  refine ⟨_, (pss_one (ps_if (pt_not (pt_val (pe_callF C_is_setting (hr.mono (by decide)) (pa_cons (pv 0) pa_nil))))
      (pss_one ps_never) pss_nil)), ?_⟩
  refine ⟨_, rfl, a, ns, rfl, hS, by omega, fun b hb => ?_⟩
  obtain rfl : b = true := hb.mpr ⟨hg, hs⟩
  exact ⟨true, rfl, q⟩

end

section
variable {P : Program} {w : World} {K : PySem.W.Frag} {mg : Str → Option Value} {base : Heap}
theorem sc_turned_by : FnScope ["piles", "rest", "pile", "fresh", "at"] ["piles"] (defScope s_turned_by) := ⟨rfl, rfl, rfl, by decide +kernel, rfl, by decide +kernel, by decide +kernel⟩
def sp_turned_by : Sp := fun vs H Q _ => ∃ (a : Addr) (ns : List Int), vs = [.ref a] ∧ IL H a ns ∧ ns.length ≤ 1000 ∧ NL Q H (turn ns)
theorem ok_turned_by (T : Txt K mg) : Cal P w K mg base CX0 1 "turned_by" ["piles"] sp_turned_by := by
  refine cal_mk T.d_turned_by sc_turned_by ?_ (fun _ _ _ _ _ _ us hl => match us, hl with | [_], _ => rfl) (fun f cdv A outer s H vs Q E hr h => ?_)
  · intro vs H Q E h
    obtain ⟨a, ns, rfl, _⟩ := h
    rfl
  obtain ⟨a, ns, rfl, hS, hl, q⟩ := h
  refine ⟨_, (pss_cons (ps_setLc (i := 1) (own := [("pile", 2)]) (g := gName 2) rfl sc_turned_by.nd rfl rfl (sw_true rfl rfl rfl (by decide +kernel)) (pi_list (pv 0)) (blkOk_by (own := [("pile", 2)]) (N := ["piles", "rest", "pile", "fresh", "at"]) (sc := defScope s_turned_by) (by decide +kernel)) (fun _ _ _ _ _ => pg_name (i := 2) sc_turned_by.nd rfl (Or.inl rfl)) (fun _ _ _ _ _ => (pts_one (pt_cmpR op_gt (pv 2) pe_int (nomark _)))) (fun _ _ _ _ _ => (pe_op op_sub (pv 2) pe_int)))
      (pss_cons (ps_set (i := 3) sc_turned_by.nd rfl (Or.inl rfl) (pe_callB call_len_seq (by rfl) T.m_len PySem.boot_len (pa_cons (pv 0) pa_nil)))
      (pss_cons (ps_set (i := 4) sc_turned_by.nd rfl (Or.inl rfl) pe_int)
      (pss_cons (ps_while PassesOwn.never (PW.pt (pw_and (pt_cmpR op_lt (pv 4) (pe_callB call_len_seq (by rfl) T.m_len PySem.boot_len (pa_cons (pv 1) pa_nil)) (nomark _)) (pw_and1 (pt_cmpR op_gt (pe_ix ix_list (pv 1) (pv 4) (fun _ _ => rfl)) (pv 3) (nomark _)))))
      (pss_one (ps_set (i := 4) sc_turned_by.nd rfl (Or.inl rfl) (pe_op op_add (pv 4) pe_int))))
      (pss_cons (ps_expr (pe_bm PySem.F.plainAttrs_list PySem.F.slot_list_insert PySem.F.type_list_insert mt_insert (pv 1) (pa_cons (pv 4) (pa_cons (pv 3) pa_nil))))
      (pss_one (ps_ret (pv 1)))))))), ?_⟩
  refine ⟨_, rfl, a, rfl, ⟨_, sq hS⟩, fun D nD => lc_list (K := K) (a := a) (xs := ns.map V.int) (fun i H' => Same H H' ∧ IL H' D (down1 (ns.take i))) ⟨same_new nD _, upd_same⟩ (fun i H' _ h => sq (h.1 _ _ hS)) ?_ ?_⟩
  · intro i x H' hx h
    obtain ⟨z, hz, rfl⟩ := get_int hx
    obtain ⟨sm, eD⟩ := h
    refine ⟨rfl, .int z, rfl, _, _, rfl, rfl, _, rfl, ?_⟩
    have ed : down1 (ns.take (i + 1)) = down1 (ns.take i) ++ (if z > 1 then [z - 1] else []) := by
      rw [take_snoc hz]
      unfold down1
      rw [List.filter_append, List.map_append]
      congr 1
      by_cases c : z > 1
      · rw [if_pos c, List.filter_cons, if_pos (decide_eq_true c)] <;> rfl
      · rw [if_neg c, List.filter_cons, if_neg (by simp only [decide_eq_true_eq]; exact c)] <;> rfl
    rw [ed]
    refine ite2 (fun c => ?_) (fun c => ?_)
    · have c' : z > 1 := of_decide_eq_true c
      rw [if_pos c']
      refine ⟨.int z, rfl, _, _, rfl, rfl, _, eD, ?_, same_mut sm nD _, ?_⟩
      · rw [nlen]
        have := down1_length (ns.take i)
        rw [List.length_take] at this
        exact smallL (by omega)
      · show upd _ _ _ _ = _
        rw [upd_same, List.map_append] <;> rfl
    · have c' : ¬ z > 1 := fun h => c (decide_eq_true h)
      rw [if_neg c', List.append_nil]
      exact ⟨sm, eD⟩
  · intro H1 h
    obtain ⟨sm, eD⟩ := h
    rw [nlen, List.take_length] at eD
    have hdl := down1_length ns
    refine ⟨_, rfl, a, _, rfl, .inl (sq (sm _ _ hS)), ?_⟩
    rw [nlen]
    generalize hrs : down1 ns = rs at *
    refine ⟨fun m σ H' => ∃ j : Nat, σ = [some (.ref a), some (.ref D), none, some (.int ns.length), some (.int j)] ∧ H' = H1 ∧ m = rs.length - j ∧ j ≤ rs.length ∧ ∀ i y, i < j → rs[i]? = some y → y > (ns.length : Int),
      ⟨_, 0, rfl, rfl, rfl, Nat.zero_le _, fun i y h => by omega⟩, fun m σ H' hW => ?_⟩
    obtain ⟨j, rfl, rfl, rfl, hj, hall⟩ := hW
    have fin : (∀ y, rs[j]? = some y → ¬ y > (ns.length : Int)) → NL Q H (rs.take j ++ [(ns.length : Int)] ++ rs.drop j) := fun h2 => by
      have := insD_at hj hall h2
      unfold turn at q
      rw [hrs, this] at q
      exact q
    have out : (∀ y, rs[j]? = some y → ¬ y > (ns.length : Int)) → Q (.ref D) (upd H' D (.lst ((rs.map V.int).take (j : Int).toNat ++ [V.int ns.length] ++ (rs.map V.int).drop (j : Int).toNat))) := fun h2 => by
      refine fin h2 _ D (same_mut sm nD _) nD ?_
      show upd _ _ _ _ = _
      rw [upd_same, Int.toNat_natCast, List.map_append, List.map_append, List.map_take, List.map_drop] <;> rfl
    refine ⟨_, rfl, _, rfl, D, _, rfl, .inl (sq eD), _, _, rfl, rfl, _, rfl, ite2 (fun c => ?_) (fun c => ?_)⟩
    · have c' : (j : Int) < ((rs.map V.int).length : Int) := of_decide_eq_true c
      rw [nlen] at c'
      have hjl : j < rs.length := by omega
      have gj : rs[j]? = some rs[j] := List.getElem?_eq_getElem hjl
      refine ⟨_, rfl, _, rfl, D, _, _, .int rs[j], rfl, rfl, sq eD, at_of (j := j) rfl (int_get gj), _, rfl, _, _, rfl, rfl, _, rfl, ite2 (fun d => ?_) (fun d => ?_)⟩
      · have d' : (ns.length : Int) < rs[j] := of_decide_eq_true d
        refine ⟨fun σ' H2 => ∃ j' : Nat, j' = j + 1 ∧ σ' = [some (.ref a), some (.ref D), none, some (.int ns.length), some (.int j')] ∧ H2 = H', fun σ' H2 h => ?_, ?_⟩
        · obtain ⟨j', rfl, e1, e2⟩ := h
          refine ⟨rs.length - (j + 1), by omega, j + 1, e1, e2, rfl, by omega, fun i y hi hy => ?_⟩
          rcases Nat.lt_or_ge i j with l | l
          · exact hall i y l hy
          · obtain rfl : i = j := by omega
            rw [gj] at hy
            have := Option.some.inj hy
            omega
        · exact ⟨_, rfl, _, _, rfl, rfl, j + 1, rfl, rfl, rfl⟩
      · have d' : ¬ (ns.length : Int) < rs[j] := fun h => d (decide_eq_true h)
        refine ⟨_, rfl, Or.inl ⟨rfl, _, sq eD⟩, _, rfl, _, rfl, D, rs.map V.int, _, _, rfl, rfl, eD, by rw [nlen]; exact smallL (by omega), by omega, by omega, ?_⟩
        refine ⟨_, rfl, out fun y hy => ?_⟩
        rw [gj] at hy
        have := Option.some.inj hy
        omega
    · have c' : ¬ (j : Int) < ((rs.map V.int).length : Int) := fun h => c (decide_eq_true h)
      rw [nlen] at c'
      refine ⟨_, rfl, Or.inl ⟨rfl, _, sq eD⟩, _, rfl, _, rfl, D, rs.map V.int, _, _, rfl, rfl, eD, by rw [nlen]; exact smallL (by omega), by omega, by omega, ?_⟩
      refine ⟨_, rfl, out fun y hy => ?_⟩
      have := (List.getElem?_eq_some_iff.mp hy).1
      omega

end

section
variable {P : Program} {w : World} {K : PySem.W.Frag} {mg : Str → Option Value} {base : Heap}
theorem sc_turned : FnScope ["piles"] ["piles"] (defScope s_turned) := ⟨rfl, rfl, rfl, by decide +kernel, rfl, by decide +kernel, by decide +kernel⟩
def sp_turned : Sp := fun vs H Q _ => ∃ (a : Addr) (ns : List Int), vs = [.ref a] ∧ IL H a ns ∧ Good ns ∧ ns.sum ≤ 100 ∧ NL Q H (turn ns)
theorem ok_turned (T : Txt K mg) : Cal P w K mg base CX0 3 "turned" ["piles"] sp_turned := by
  have C_must_be := ok_must_be (P := P) (w := w) (base := base) T
  have C_turned_by := ok_turned_by (P := P) (w := w) (base := base) T
  refine cal_mk T.d_turned sc_turned ?_ (fun _ _ _ _ _ _ us hl => match us, hl with | [_], _ => rfl) (fun f cdv A outer s H vs Q E hr h => ?_)
  · intro vs H Q E h
    obtain ⟨a, ns, rfl, _⟩ := h
    rfl
  obtain ⟨a, ns, rfl, hS, hg, hs, q⟩ := h
  have hl := hg.le100 hs
  refine ⟨_, (pss_cons (ps_expr (pe_callF C_must_be (hr.mono (by decide)) (pa_cons (pv 0) pa_nil)))
      (pss_one (ps_ret (pe_callF C_turned_by (hr.mono (by decide)) (pa_cons (pv 0) pa_nil))))), ?_⟩
  exact ⟨_, rfl, a, ns, rfl, hS, hg, hs, _, rfl, a, ns, rfl, hS, by omega, q⟩

end

section
variable {P : Program} {w : World} {K : PySem.W.Frag} {mg : Str → Option Value} {base : Heap}
theorem sc_marks_of : FnScope ["piles", "found"] ["piles"] (defScope s_marks_of) := ⟨rfl, rfl, rfl, by decide +kernel, rfl, by decide +kernel, by decide +kernel⟩
/-- of a round setting -/
def sp_marks_of : Sp := fun vs H Q _ => ∃ (a : Addr) (ns : List Int), vs = [.ref a] ∧ IL H a ns ∧ Good ns ∧ ns.sum ≤ 100 ∧ marksBy ns ≠ [] ∧ NL Q H (marksBy ns)
theorem ok_marks_of (T : Txt K mg) : Cal P w K mg base CX0 3 "marks_of" ["piles"] sp_marks_of := by
  have C_marks_by := ok_marks_by (P := P) (w := w) (base := base) T
  have C_must_be := ok_must_be (P := P) (w := w) (base := base) T
  refine cal_mk T.d_marks_of sc_marks_of ?_ (fun _ _ _ _ _ _ us hl => match us, hl with | [_], _ => rfl) (fun f cdv A outer s H vs Q E hr h => ?_)
  · intro vs H Q E h
    obtain ⟨a, ns, rfl, _⟩ := h
    rfl
  obtain ⟨a, ns, rfl, hS, hg, hs, hne, q⟩ := h
  refine ⟨_, (pss_cons (ps_expr (pe_callF C_must_be (hr.mono (by decide)) (pa_cons (pv 0) pa_nil)))
      (pss_cons (ps_set (i := 1) sc_marks_of.nd rfl (Or.inl rfl) (pe_callF C_marks_by (hr.mono (by decide)) (pa_cons (pv 0) pa_nil)))
      (pss_cons (ps_if (pt_cmpR op_eq (pe_callB call_len_seq (by rfl) T.m_len PySem.boot_len (pa_cons (pv 1) pa_nil)) pe_int (nomark _))
      (pss_one ps_never) pss_nil)
      (pss_one (ps_ret (pv 1)))))), ?_⟩
  refine ⟨_, rfl, a, ns, rfl, hS, hg, hs, _, rfl, a, ns, rfl, hS, hg, hs, fun H1 p sm np ep => ?_⟩
  refine ⟨_, rfl, p, _, rfl, .inl (sq ep), rfl, _, rfl, ite2 (fun c => ?_) (fun _ => ⟨_, rfl, q H1 p sm np ep⟩)⟩
  have := V.int.inj (of_decide_eq_true c)
  rw [nlen] at this
  exact absurd (List.eq_nil_of_length_eq_zero (by omega)) hne

end

section
variable {P : Program} {w : World} {K : PySem.W.Frag} {mg : Str → Option Value} {base : Heap}
theorem sc_setting_by : FnScope ["marks", "piles", "k", "pile"] ["marks"] (defScope s_setting_by) := ⟨rfl, rfl, rfl, by decide +kernel, rfl, by decide +kernel, by decide +kernel⟩
def sp_setting_by : Sp := fun vs H Q _ => ∃ (a : Addr) (ms : List Int), vs = [.ref a] ∧ IL H a ms ∧ ms.length ≤ 1000 ∧ NL Q H (ofMarks ms)
theorem ok_setting_by (T : Txt K mg) : Cal P w K mg base CX0 1 "setting_by" ["marks"] sp_setting_by := by
  refine cal_mk T.d_setting_by sc_setting_by ?_ (fun _ _ _ _ _ _ us hl => match us, hl with | [_], _ => rfl) (fun f cdv A outer s H vs Q E hr h => ?_)
  · intro vs H Q E h
    obtain ⟨a, ms, rfl, _⟩ := h
    rfl
  obtain ⟨a, ms, rfl, hS, hl, q⟩ := h
  refine ⟨_, (pss_cons (ps_setLc (i := 1) (own := [("k", 2)]) (g := gName 2) rfl sc_setting_by.nd rfl rfl (sw_true rfl rfl rfl (by decide +kernel)) (pi_range1 (by rfl) T.m_range (pa_cons (pe_callB call_len_seq (by rfl) T.m_len PySem.boot_len (pa_cons (pv 0) pa_nil)) pa_nil)) (blkOk_by (own := [("k", 2)]) (N := ["marks", "piles", "k", "pile"]) (sc := defScope s_setting_by) (by decide +kernel)) (fun _ _ _ _ _ => pg_name (i := 2) sc_setting_by.nd rfl (Or.inl rfl)) (fun _ _ _ _ _ => pts_nil) (fun _ _ _ _ _ => (pe_op op_add (pe_op op_sub (pe_op op_sub (pe_callB (call_len_seqK K) (by rfl) T.m_len PySem.boot_len (pa_cons (pv 0) pa_nil)) pe_int) (pv 2)) (pe_ix (ix_listK K) (pv 0) (pv 2) (fun _ _ => rfl)))))
      (pss_one (ps_ret (pe_lc (own := [("pile", 3)]) (g := gName 3) rfl sc_setting_by.nd (pi_list (pv 1)) (blkOk_by (own := [("pile", 3)]) (N := ["marks", "piles", "k", "pile"]) (sc := defScope s_setting_by) (by decide +kernel)) (fun _ _ _ _ _ => pg_name (i := 3) sc_setting_by.nd rfl (Or.inl rfl)) (fun _ _ _ _ _ => (pts_one (pt_cmpR op_gt (pv 3) pe_int (nomark _)))) (fun _ _ _ _ _ => (pv 3)))))), ?_⟩
  refine ⟨_, rfl, a, _, rfl, .inl (sq hS), _, rfl, by rw [nlen]; omega, by rw [nlen]; omega, fun D nD => lc_range (lo := 0) (n := ((ms.map V.int).length : Int).toNat) (fun i H' => Same H H' ∧ IL H' D ((mk ms).take i)) ⟨same_new nD _, upd_same⟩ ?_ ?_⟩
  · intro i H' hi h
    obtain ⟨sm, eD⟩ := h
    rw [nlen] at hi
    have hi : i < ms.length := by omega
    refine ⟨rfl, _, rfl, a, _, rfl, .inl (sq (sm _ _ hS)), _, _, rfl, rfl, _, rfl, _, _, rfl, rfl, _, rfl, _, rfl, a, _, _, .int ms[i], rfl, rfl, sq (sm _ _ hS), at_of (j := i) (by omega) (int_get (List.getElem?_eq_getElem hi)), _, _, rfl, rfl, _, eD, ?_, same_mut sm nD _, ?_⟩
    · rw [nlen, List.length_take, mk_length]
      exact smallL (by omega)
    · have g := mk_get (List.getElem?_eq_getElem hi)
      show upd _ _ _ _ = _
      rw [upd_same, take_snoc g, List.map_append, nlen]
      congr 4
      simp
  · intro H1 h
    obtain ⟨sm, eD⟩ := h
    rw [nlen, Int.toNat_natCast, ← mk_length, List.take_length] at eD
    refine ⟨_, rfl, D, rfl, ⟨_, sq eD⟩, fun G nG => lc_list (K := K) (a := D) (xs := (mk ms).map V.int) (fun i H' => Same H1 H' ∧ IL H' G (((mk ms).take i).filter fun z => decide (z > 0))) ⟨same_new nG _, upd_same⟩ (fun i H' _ h => sq (h.1 _ _ eD)) ?_ ?_⟩
    · intro i x H' hx h
      obtain ⟨z, hz, rfl⟩ := get_int hx
      obtain ⟨sm2, eG⟩ := h
      refine ⟨rfl, _, rfl, _, _, rfl, rfl, _, rfl, ?_⟩
      rw [take_snoc hz, List.filter_append]
      refine ite2 (fun c => ?_) (fun c => ?_)
      · have c' : z > 0 := of_decide_eq_true c
        refine ⟨_, rfl, _, eG, ?_, same_mut sm2 nG _, ?_⟩
        · rw [nlen]
          have := List.length_filter_le (fun z => decide (z > 0)) ((mk ms).take i)
          rw [List.length_take, mk_length] at this
          exact smallL (by omega)
        · show upd _ _ _ _ = _
          rw [upd_same, List.map_append, List.filter_cons, if_pos (decide_eq_true c')] <;> rfl
      · have c' : ¬ z > 0 := fun h => c (decide_eq_true h)
        refine ⟨sm2, ?_⟩
        rw [List.filter_cons, if_neg (by simp only [decide_eq_true_eq]; exact c'), List.filter_nil, List.append_nil]
        exact eG
    · intro H2 h
      obtain ⟨sm2, eG⟩ := h
      rw [nlen, List.take_length] at eG
      exact q H2 G (sm.trans sm2) (sm.free nG) eG

end

section
variable {P : Program} {w : World} {K : PySem.W.Frag} {mg : Str → Option Value} {base : Heap}
theorem sc_setting_of : FnScope ["marks", "mark", "found"] ["marks"] (defScope s_setting_of) := ⟨rfl, rfl, rfl, by decide +kernel, rfl, by decide +kernel, by decide +kernel⟩
theorem inV_ints {x : Int} : ∀ {ns : List Int}, inV (.int x) (ns.map V.int) = true ↔ x ∈ ns := by
  intro ns
  unfold inV
  rw [List.any_eq_true]
  constructor
  · rintro ⟨v, hv, he⟩
    obtain ⟨y, hy, rfl⟩ := List.mem_map.mp hv
    have : y = x := by
      first
        | exact of_decide_eq_true he
        | simpa [eqV] using he
    rw [← this]
    exact hy
  · intro h
    refine ⟨.int x, List.mem_map.mpr ⟨x, h, rfl⟩, ?_⟩
    first
      | exact decide_eq_true rfl
      | simp [eqV]
theorem flat_ints : ∀ ns : List Int, (ns.map V.int).all flatV = true
  | [] => rfl
  | _ :: r => flat_ints r
/-- of marks that are some -/
def sp_setting_of : Sp := fun vs H Q _ => ∃ (a : Addr) (ms : List Int), vs = [.ref a] ∧ IL H a ms ∧ Bits ms ∧ 1 ∈ ms ∧ ms.length ≤ 14 ∧ (ofMarks ms).sum ≤ 100 ∧ NL Q H (ofMarks ms)
theorem ok_setting_of (T : Txt K mg) : Cal P w K mg base CX0 2 "setting_of" ["marks"] sp_setting_of := by
  have C_setting_by := ok_setting_by (P := P) (w := w) (base := base) T
  refine cal_mk T.d_setting_of sc_setting_of ?_ (fun _ _ _ _ _ _ us hl => match us, hl with | [_], _ => rfl) (fun f cdv A outer s H vs Q E hr h => ?_)
  · intro vs H Q E h
    obtain ⟨a, ns, rfl, _⟩ := h
    rfl
  obtain ⟨a, ms, rfl, hS, hb, h1, hl, hs, q⟩ := h
  have hl1 : 1 ≤ ms.length := List.length_pos_of_mem h1
  refine ⟨_, (pss_cons (ps_if (PW.pt (pw_or (pt_cmpR op_lt (pe_callB call_len_seq (by rfl) T.m_len PySem.boot_len (pa_cons (pv 0) pa_nil)) pe_int (nomark _)) (pw_or (pt_cmpR op_gt (pe_callB call_len_seq (by rfl) T.m_len PySem.boot_len (pa_cons (pv 0) pa_nil)) pe_int (nomark _)) (pw_or1 (pt_cmpR op_notIn_seq pe_int (pv 0) rfl)))))
      (pss_one ps_never) pss_nil)
      (pss_cons (ps_for PassesOwn.never rfl (pi_list (pv 0)) (pg_name (i := 1) sc_setting_of.nd rfl (Or.inl rfl))
      (pss_one (ps_if (PW.pt (pw_and (pt_cmpR op_ne (pv 1) pe_int (nomark _)) (pw_and1 (pt_cmpR op_ne (pv 1) pe_int (nomark _)))))
      (pss_one ps_never) pss_nil)))
      (pss_cons (ps_set (i := 2) sc_setting_of.nd rfl (Or.inl rfl) (pe_callF C_setting_by (hr.mono (by decide)) (pa_cons (pv 0) pa_nil)))
      (pss_cons (ps_if (pt_cmpR op_gt (pe_callB (cr_sum rfl) (by rfl) T.m_sum (by decide +kernel) (pa_cons (pv 2) pa_nil)) (pe_globX T.c_MOST) (nomark _))
      (pss_one ps_never) pss_nil)
      (pss_one (ps_ret (pv 2))))))), ?_⟩
  refine ⟨_, rfl, a, _, rfl, .inl (sq hS), _, _, rfl, rfl, _, rfl, ite2 (fun c => absurd (of_decide_eq_true c) (by rw [nlen]; omega)) (fun _ => ?_)⟩
  refine ⟨_, rfl, a, _, rfl, .inl (sq hS), _, _, rfl, rfl, _, rfl, ite2 (fun c => absurd (of_decide_eq_true c) (by rw [nlen]; omega)) (fun _ => ?_)⟩
  refine ⟨_, rfl, a, _, rfl, .inl (sq hS), rfl, flat_ints _, _, rfl, ?_⟩
  rw [inV_ints.mpr h1]
  refine ⟨_, rfl, a, rfl, ⟨_, sq hS⟩, for_list (K := K) (a := a) (xs := ms.map V.int) (fun i σ H' => ∃ y, σ = [some (.ref a), y, none] ∧ H' = H) ⟨none, rfl, rfl⟩ (fun i σ H' _ h => by obtain ⟨_, _, rfl⟩ := h; exact sq hS) ?_ ?_⟩
  · intro i x σ H' hx h
    obtain ⟨y, rfl, rfl⟩ := h
    obtain ⟨z, hz, rfl⟩ := get_int hx
    rcases hb z (List.mem_of_getElem? hz) with rfl | rfl
    · exact ⟨_, rfl, rfl, _, rfl, _, rfl, rfl⟩
    · exact ⟨_, rfl, rfl, _, rfl, _, rfl, rfl, _, rfl, _, rfl, rfl⟩
  · intro σ H' h
    obtain ⟨y, rfl, rfl⟩ := h
    refine ⟨_, rfl, a, ms, rfl, hS, by omega, fun H1 p sm np ep => ?_⟩
    refine ⟨_, rfl, p, _, rfl, sq ep, _, _, rfl, rfl, _, rfl, ite2 (fun c => absurd (of_decide_eq_true c) (by omega)) (fun _ => ?_)⟩
    exact ⟨_, rfl, q H1 p sm np ep⟩

end

section
variable {P : Program} {w : World} {K : PySem.W.Frag} {mg : Str → Option Value} {base : Heap}
theorem sc_ring_by : FnScope ["first", "found", "here"] ["first"] (defScope s_ring_by) := ⟨rfl, rfl, rfl, by decide +kernel, rfl, by decide +kernel, by decide +kernel⟩
def sp_ring_by : Sp := fun vs H Q _ => ∃ (a : Addr) (ns : List Int) (n : Int) (d : Nat), vs = [.ref a] ∧ IL H a ns ∧ IsSet n ns ∧ n ≤ 100 ∧ Ring ns d ∧ d ≤ 100000 ∧ NLL Q H (ringL d ns)
theorem ok_ring_by (T : Txt K mg) : Cal P w K mg base CX0 2 "ring_by" ["first"] sp_ring_by := by
  have C_turned_by := ok_turned_by (P := P) (w := w) (base := base) T
  refine cal_mk T.d_ring_by sc_ring_by ?_ (fun _ _ _ _ _ _ us hl => match us, hl with | [_], _ => rfl) (fun f cdv A outer s H vs Q E hr h => ?_)
  · intro vs H Q E h
    obtain ⟨a, ns, n, d, rfl, _⟩ := h
    rfl
  obtain ⟨a, ns, n, d, rfl, hS, hset, hn, hring, hd, q⟩ := h
  have hlen := hset.len
  refine ⟨_, (pss_cons (ps_set (i := 1) sc_ring_by.nd rfl (Or.inl rfl) (pe_lst (pa_cons (pe_callTy call_list_of (by rfl) T.m_list (by decide +kernel) (pa_cons (pv 0) pa_nil)) pa_nil)))
      (pss_cons (ps_set (i := 2) sc_ring_by.nd rfl (Or.inl rfl) (pe_callF C_turned_by (hr.mono (by decide)) (pa_cons (pv 0) pa_nil)))
      (pss_cons (ps_while PassesOwn.never (pt_cmpR (op_neD hr.units) (pv 2) (pe_ix ix_list (pv 1) pe_int (fun _ _ => rfl)) (nomark _))
      (pss_cons (ps_expr (pe_bm PySem.F.plainAttrs_list PySem.F.slot_list_append PySem.F.type_list_append mt_append (pv 1) (pa_cons (pv 2) pa_nil)))
      (pss_one (ps_set (i := 2) sc_ring_by.nd rfl (Or.inl rfl) (pe_callF C_turned_by (hr.mono (by decide)) (pa_cons (pv 2) pa_nil))))))
      (pss_one (ps_ret (pv 1)))))), ?_⟩
  -- found = [list(first)]
  refine ⟨_, rfl, a, _, rfl, .inl (sq hS), fun p0 n0 => ⟨(by show 1 ≤ sizeLine; decide), fun F nF => ?_⟩⟩
  have s0 := same_new n0 (.lst (ns.map V.int))
  have sF := same_new nF (.lst [V.ref p0])
  have e0 : IL (upd (upd H p0 (.lst (ns.map V.int))) F (.lst [V.ref p0])) p0 ns := sF p0 (.lst (ns.map V.int)) upd_same
  have eF : (upd (upd H p0 (.lst (ns.map V.int))) F (.lst [V.ref p0])) F = some (.lst [V.ref p0]) := upd_same
  have n0F : p0 ≠ F := ne_of_none upd_same nF
  have smA := s0.trans sF
  have nF' : H F = none := s0.free nF
  generalize upd (upd H p0 (.lst (ns.map V.int))) F (.lst [V.ref p0]) = H1 at *
  -- here
  refine ⟨_, rfl, a, ns, rfl, smA _ _ hS, by omega, fun H2 h sm2 nh eh => ?_⟩
  refine ⟨fun m σ H' => ∃ (j : Nat) (as : List Addr) (b : Addr), σ = [some (.ref a), some (.ref F), some (.ref b)] ∧ Same H H' ∧ LL H' F (p0 :: as) (ringL j ns) ∧ (∀ c ∈ p0 :: as, H c = none ∧ c ≠ F) ∧ IL H' b (turnN j ns) ∧ H b = none ∧ b ≠ F ∧ 1 ≤ j ∧ j ≤ d ∧ m = d - j,
    ⟨_, 1, [], h, rfl, smA.trans sm2, ⟨sm2 _ _ eF, sm2 _ _ e0, trivial⟩, fun c hc => by rw [List.mem_singleton.mp hc]; exact ⟨n0, n0F⟩, eh, smA.free nh, (ne_of_none eF nh).symm, Nat.le_refl _, hring.pos, rfl⟩, fun m σ H' hW => ?_⟩
  obtain ⟨j, as, b, rfl, sm, ⟨eF', hLL⟩, has, eb, nb, nbF, j1, jd, rfl⟩ := hW
  obtain ⟨x, hx, ex⟩ := hLL.get (i := 0) (a := p0) rfl
  have hx0 : x = ns := by
    obtain ⟨k, rfl⟩ : ∃ k, j = k + 1 := ⟨j - 1, by omega⟩
    have h0 : (ringL (k + 1) ns)[0]? = some ns := by
      unfold ringL
      rw [List.getElem?_map, List.getElem?_range (by omega)] <;> rfl
    rw [h0] at hx
    exact (Option.some.inj hx).symm
  rw [hx0] at ex
  have hal := hLL.len
  rw [ringL_len] at hal
  refine ⟨_, rfl, _, rfl, F, _, _, .ref p0, rfl, rfl, sq eF', atI_nat (j := 0) rfl, _, _, dp_ints (sq eb), dp_ints (sq ex), sh_ints _, sh_ints _, _, rfl, ite2 (fun c => ?_) (fun c => ?_)⟩
  · have hne : turnN j ns ≠ ns := fun e => by
      rw [eqv_ints, decide_eq_true e] at c
      cases c
    have hjd : j < d := by
      rcases Nat.lt_or_ge j d with l | l
      · exact l
      · obtain rfl : j = d := by omega
        exact absurd hring.back hne
    refine ⟨fun σ' H2 => ∃ (j' : Nat) (as : List Addr) (b : Addr), j' = j + 1 ∧ σ' = [some (.ref a), some (.ref F), some (.ref b)] ∧ Same H H2 ∧ LL H2 F (p0 :: as) (ringL j' ns) ∧ (∀ c ∈ p0 :: as, H c = none ∧ c ≠ F) ∧ IL H2 b (turnN j' ns) ∧ H b = none ∧ b ≠ F, fun σ' H2 h => ?_, ?_⟩
    · obtain ⟨j', as, b, rfl, e1, e2, e3, e4, e5, e6, e7⟩ := h
      exact ⟨d - (j + 1), by omega, j + 1, as, b, e1, e2, e3, e4, e5, e6, e7, by omega, by omega, rfl⟩
    · refine ⟨_, rfl, .inl ⟨rfl, _, sq eF'⟩, _, rfl, F, _, _, rfl, rfl, eF', by rw [rlen]; exact smallL (by omega), ?_⟩
      have sm3 : Same H (upd H' F (.lst ((p0 :: as).map V.ref ++ [V.ref b]))) := same_mut sm nF' _
      have eb3 : IL (upd H' F (.lst ((p0 :: as).map V.ref ++ [V.ref b]))) b (turnN j ns) := by
        show upd _ _ _ _ = _
        rw [upd_ne nbF]
        exact eb
      have hLL3 : LLs (upd H' F (.lst ((p0 :: as).map V.ref ++ [V.ref b]))) (p0 :: as) (ringL j ns) := hLL.upd fun c hc => (has c hc).2
      have eF3 : (upd H' F (.lst ((p0 :: as).map V.ref ++ [V.ref b]))) F = some (.lst ((p0 :: as).map V.ref ++ [V.ref b])) := upd_same
      generalize upd H' F (.lst ((p0 :: as).map V.ref ++ [V.ref b])) = H3 at *
      have hts := (turnN_set (j := j) hset).len
      refine ⟨_, rfl, b, _, rfl, eb3, by omega, fun H4 b' sm4 nb' eb' => ?_⟩
      refine ⟨j + 1, as ++ [b], b', rfl, rfl, sm3.trans sm4, ⟨?_, ?_⟩, fun c hc => ?_, by rw [turnN_succ]; exact eb', sm3.free nb', (ne_of_none eF3 nb').symm⟩
      · rw [sm4 _ _ eF3, ← List.cons_append, List.map_append] <;> rfl
      · rw [ringL_succ, ← List.cons_append]
        exact (hLL3.same sm4).app ⟨sm4 _ _ eb3, trivial⟩
      · rw [← List.cons_append] at hc
        rcases List.mem_append.mp hc with hc | hc
        · exact has c hc
        · rw [List.mem_singleton.mp hc]
          exact ⟨nb, nbF⟩
  · have he : turnN j ns = ns := by
      by_cases e : turnN j ns = ns
      · exact e
      · rw [eqv_ints, decide_eq_false e] at c
        exact absurd rfl c
    have hjd : j = d := by
      rcases Nat.lt_or_ge j d with l | l
      · exact absurd he (hring.first j (by omega) l)
      · omega
    subst hjd
    exact ⟨_, rfl, q H' F (p0 :: as) sm nF' (fun c hc => (has c hc).1) ⟨eF', hLL⟩⟩

end

section
variable {P : Program} {w : World} {K : PySem.W.Frag} {mg : Str → Option Value} {base : Heap}
theorem sc_ring_of : FnScope ["piles", "here"] ["piles"] (defScope s_ring_of) := ⟨rfl, rfl, rfl, by decide +kernel, rfl, by decide +kernel, by decide +kernel⟩
/-- w turns until the first round one -/
structure Way (ns : List Int) (w : Nat) : Prop where
  before : ∀ j, j < w → marksBy (turnN j ns) = []
  there : marksBy (turnN w ns) ≠ []
def sp_ring_of : Sp := fun vs H Q _ => ∃ (a : Addr) (ns : List Int) (n : Int) (w d : Nat), vs = [.ref a] ∧ IL H a ns ∧ IsSet n ns ∧ n ≤ 100 ∧ Way ns w ∧ Ring (turnN w ns) d ∧ d ≤ 100000 ∧ NLL Q H (ringL d (turnN w ns))
theorem ok_ring_of (T : Txt K mg) : Cal P w K mg base CX0 3 "ring_of" ["piles"] sp_ring_of := by
  have C_marks_by := ok_marks_by (P := P) (w := w) (base := base) T
  have C_must_be := ok_must_be (P := P) (w := w) (base := base) T
  have C_ring_by := ok_ring_by (P := P) (w := w) (base := base) T
  have C_turned_by := ok_turned_by (P := P) (w := w) (base := base) T
  refine cal_mk T.d_ring_of sc_ring_of ?_ (fun _ _ _ _ _ _ us hl => match us, hl with | [_], _ => rfl) (fun f cdv A outer s H vs Q E hr h => ?_)
  · intro vs H Q E h
    obtain ⟨a, ns, n, w, d, rfl, _⟩ := h
    rfl
  obtain ⟨a, ns, n, w, d, rfl, hS, hset, hn, hw, hring, hd, q⟩ := h
  refine ⟨_, (pss_cons (ps_expr (pe_callF C_must_be (hr.mono (by decide)) (pa_cons (pv 0) pa_nil)))
      (pss_cons (ps_set (i := 1) sc_ring_of.nd rfl (Or.inl rfl) (pe_callTy call_list_of (by rfl) T.m_list (by decide +kernel) (pa_cons (pv 0) pa_nil)))
      (pss_cons (ps_while PassesOwn.never (pt_cmpR op_eq (pe_callB call_len_seq (by rfl) T.m_len PySem.boot_len (pa_cons (pe_callF C_marks_by (hr.mono (by decide)) (pa_cons (pv 1) pa_nil)) pa_nil)) pe_int (nomark _))
      (pss_one (ps_set (i := 1) sc_ring_of.nd rfl (Or.inl rfl) (pe_callF C_turned_by (hr.mono (by decide)) (pa_cons (pv 1) pa_nil)))))
      (pss_one (ps_ret (pe_callF C_ring_by (hr.mono (by decide)) (pa_cons (pv 1) pa_nil))))))), ?_⟩
  refine ⟨_, rfl, a, ns, rfl, hS, hset.1, by rw [hset.2]; exact hn, _, rfl, a, _, rfl, .inl (sq hS), fun p np => ?_⟩
  refine ⟨fun m σ H' => ∃ (j : Nat) (b : Addr), σ = [some (.ref a), some (.ref b)] ∧ Same H H' ∧ IL H' b (turnN j ns) ∧ j ≤ w ∧ m = w - j, ⟨_, 0, p, rfl, same_new np _, upd_same, Nat.zero_le _, rfl⟩, fun m σ H' hW => ?_⟩
  obtain ⟨j, b, rfl, sm, eb, hj, rfl⟩ := hW
  have hts := turnN_set (j := j) hset
  have htl := hts.len
  refine ⟨_, rfl, b, _, rfl, eb, hts.1, by rw [hts.2]; exact hn, fun H1 m sm1 nm em => ?_⟩
  have eb1 := sm1 _ _ eb
  refine ⟨m, _, rfl, .inl (sq em), rfl, _, rfl, ite2 (fun c => ?_) (fun c => ?_)⟩
  · have c' := V.int.inj (of_decide_eq_true c)
    rw [nlen] at c'
    have he : marksBy (turnN j ns) = [] := List.eq_nil_of_length_eq_zero (by omega)
    have hjw : j < w := by
      rcases Nat.lt_or_ge j w with l | l
      · exact l
      · obtain rfl : j = w := by omega
        exact absurd he hw.there
    refine ⟨fun σ' H2 => ∃ (j' : Nat) (b : Addr), j' = j + 1 ∧ σ' = [some (.ref a), some (.ref b)] ∧ Same H H2 ∧ IL H2 b (turnN j' ns), fun σ' H2 h => ?_, ?_⟩
    · obtain ⟨j', b, rfl, e1, e2, e3⟩ := h
      exact ⟨w - (j + 1), by omega, j + 1, b, e1, e2, e3, by omega, rfl⟩
    · exact ⟨_, rfl, b, _, rfl, eb1, by omega, fun H2 b' sm2 nb' eb' => ⟨j + 1, b', rfl, rfl, (sm.trans sm1).trans sm2, by rw [turnN_succ]; exact eb'⟩⟩
  · have hjw : j = w := by
      rcases Nat.lt_or_ge j w with l | l
      · refine absurd ?_ c
        rw [hw.before j l]
        exact decide_eq_true rfl
      · omega
    subst hjw
    exact ⟨_, rfl, b, _, n, d, rfl, eb1, hts, hn, hring, hd, fun H2 p2 as sm2 np2 nas hLL => q H2 p2 as ((sm.trans sm1).trans sm2) ((sm.trans sm1).free np2) (fun c hc => (sm.trans sm1).free (nas c hc)) hLL⟩

end

section
variable {P : Program} {w : World} {K : PySem.W.Frag} {mg : Str → Option Value} {base : Heap}
theorem sc_law_cell : FnScope ["script", "k", "base"] ["script", "k"] (defScope s_law_cell) := ⟨rfl, rfl, rfl, by decide +kernel, rfl, by decide +kernel, by decide +kernel⟩
/-- any number may stand in a cell -/
def sp_law_cell (K : PySem.W.Frag) : Sp := fun vs H Q _ => ∃ (a : Addr) (ns : List Int) (k : Int), vs = [.ref a, .int k] ∧ SL K H a ns ∧ 0 ≤ k ∧ ∀ z, Q (.int z) H
theorem ok_law_cell (T : Txt K mg) : Cal P w K mg base CX0 1 "_law_cell" ["script", "k"] (sp_law_cell K) := by
  refine cal_mk T.d_law_cell sc_law_cell ?_ (fun _ _ _ _ _ _ us hl => match us, hl with | [_, _], _ => rfl) (fun f cdv A outer s H vs Q E hr h => ?_)
  · intro vs H Q E h
    obtain ⟨a, ns, k, rfl, _⟩ := h
    rfl
  obtain ⟨a, ns, k, rfl, hS, h0, q⟩ := h
  refine ⟨_, (pss_cons (ps_if (pt_cmpR op_lt (pv 1) (pe_callB call_len_seq (by rfl) T.m_len PySem.boot_len (pa_cons (pv 0) pa_nil)) (nomark _))
      (pss_one (ps_ret (pe_ix ix_list (pv 0) (pv 1) (fun _ _ => rfl)))) pss_nil)
      (pss_cons (ps_set (i := 2) sc_law_cell.nd rfl (Or.inl rfl) pe_int)
      (pss_cons (ps_if (pt_cmpR op_gt (pe_callB call_len_seq (by rfl) T.m_len PySem.boot_len (pa_cons (pv 0) pa_nil)) pe_int (nomark _))
      (pss_one (ps_set (i := 2) sc_law_cell.nd rfl (Or.inl rfl) (pe_ix ix_list (pv 0) pe_int (fun _ _ => rfl)))) pss_nil)
      (pss_one (ps_ret (pe_op op_mod (pe_op op_add (pe_op op_mul (pe_op op_mod (pv 2) pe_int) pe_int) (pe_op op_mul (pv 1) pe_int)) pe_int)))))), ?_⟩
  refine ⟨_, rfl, _, rfl, a, _, rfl, .inl hS, _, _, rfl, rfl, _, rfl, ite2 (fun c => ?_) (fun c => ?_)⟩
  · have c' : k < ((ns.map V.int).length : Int) := of_decide_eq_true c
    rw [List.length_map] at c'
    obtain ⟨j, rfl⟩ : ∃ j : Nat, k = j := ⟨k.toNat, by omega⟩
    have hj : j < ns.length := by omega
    exact ⟨_, rfl, _, rfl, a, _, _, .int ns[j], rfl, rfl, hS, atI_nat (int_get (List.getElem?_eq_getElem hj)), q _⟩
  · refine ⟨_, rfl, a, _, rfl, .inl hS, _, _, rfl, rfl, _, rfl, ite2 (fun c => ?_) (fun c => ?_)⟩
    · have c' : (0 : Int) < ((ns.map V.int).length : Int) := of_decide_eq_true c
      rw [List.length_map] at c'
      have hj : 0 < ns.length := by omega
      refine ⟨_, rfl, a, _, 0, .int ns[0], rfl, rfl, hS, atI_nat (j := 0) (int_get (List.getElem?_eq_getElem hj)), ?_⟩
      exact ⟨_, rfl, _, _, rfl, rfl, (by show (0 : Int) < 65521; decide), _, _, rfl, rfl, .inr ⟨by decide, by decide⟩, _, rfl, _, _, rfl, rfl, .inr ⟨by decide, by decide⟩, _, _, rfl, rfl, _, _, rfl, rfl, (by show (0 : Int) < 65521; decide), q _⟩
    · exact ⟨_, rfl, _, _, rfl, rfl, (by show (0 : Int) < 65521; decide), _, _, rfl, rfl, .inr ⟨by decide, by decide⟩, _, rfl, _, _, rfl, rfl, .inr ⟨by decide, by decide⟩, _, _, rfl, rfl, _, _, rfl, rfl, (by show (0 : Int) < 65521; decide), q _⟩

end

section
variable {P : Program} {w : World} {K : PySem.W.Frag} {mg : Str → Option Value} {base : Heap}
theorem sc_law_next : FnScope ["step"] ["step"] (defScope s_law_next) := ⟨rfl, rfl, rfl, by decide +kernel, rfl, by decide +kernel, by decide +kernel⟩
def sp_law_next : Sp := fun vs H Q _ => ∃ n : Int, vs = [.int n] ∧ ∀ z, Q (.int z) H
theorem ok_law_next (T : Txt K mg) : Cal P w K mg base CX0 1 "_law_next" ["step"] sp_law_next := by
  refine cal_mk T.d_law_next sc_law_next ?_ (fun _ _ _ _ _ _ us hl => match us, hl with | [_], _ => rfl) (fun f cdv A outer s H vs Q E hr h => ?_)
  · intro vs H Q E h
    obtain ⟨n, rfl, _⟩ := h
    rfl
  obtain ⟨n, rfl, q⟩ := h
  refine ⟨_, (pss_one (ps_ret (pe_op op_mod (pe_op op_add (pe_op op_mul (pv 0) pe_int) pe_int) pe_int))), ?_⟩
  exact ⟨_, rfl, _, _, rfl, rfl, .inr ⟨by decide, by decide⟩, _, _, rfl, rfl, _, _, rfl, rfl, (by show (0 : Int) < 2147483647; decide), q _⟩

end

section
variable {P : Program} {w : World} {K : PySem.W.Frag} {mg : Str → Option Value} {base : Heap}
theorem sc_law_stair : FnScope ["coins", "stair"] ["coins"] (defScope s_law_stair) := ⟨rfl, rfl, rfl, by decide +kernel, rfl, by decide +kernel, by decide +kernel⟩
def sp_law_stair : Sp := fun vs H Q _ => ∃ n : Nat, vs = [.int n] ∧ 1 ≤ n ∧ n ≤ 100000 ∧ Q (.int (stair n)) H
theorem ok_law_stair (T : Txt K mg) : Cal P w K mg base CX0 1 "_law_stair" ["coins"] sp_law_stair := by
  refine cal_mk T.d_law_stair sc_law_stair ?_ (fun _ _ _ _ _ _ us hl => match us, hl with | [_], _ => rfl) (fun f cdv A outer s H vs Q E hr h => ?_)
  · intro vs H Q E h
    obtain ⟨n, rfl, _⟩ := h
    rfl
  obtain ⟨n, rfl, h1, h2, q⟩ := h
  refine ⟨_, (pss_cons (ps_set (i := 1) sc_law_stair.nd rfl (Or.inl rfl) pe_int)
      (pss_cons (ps_while PassesOwn.never (pt_cmpR op_lt (pe_op op_mul (pv 1) (pe_op op_add (pv 1) pe_int)) (pe_op op_mul pe_int (pv 0)) (nomark _))
      (pss_one (ps_set (i := 1) sc_law_stair.nd rfl (Or.inl rfl) (pe_op op_add (pv 1) pe_int))))
      (pss_one (ps_ret (pv 1))))), ?_⟩
  refine ⟨fun m σ H' => ∃ s : Nat, σ = [some (.int n), some (.int s)] ∧ H' = H ∧ m = 2 * n + 2 - s ∧ 1 ≤ s ∧ (s - 1) * s < 2 * n, ⟨_, 1, rfl, rfl, rfl, Nat.le_refl _, by omega⟩, fun m σ H' hW => ?_⟩
  obtain ⟨s, rfl, rfl, rfl, g1, g2⟩ := hW
  have g3 : s ≤ 2 * n + 1 := by
    have := Nat.mul_le_mul_left (s - 1) g1
    omega
  refine ⟨_, rfl, _, rfl, _, _, rfl, rfl, _, _, rfl, rfl, .inl ⟨by omega, by omega⟩, _, rfl, _, _, rfl, rfl, .inl ⟨by decide, by decide⟩, _, _, rfl, rfl, _, rfl, ite2 (fun c => ?_) (fun c => ?_)⟩
  · have c' : (s : Int) * ((s : Int) + 1) < 2 * (n : Int) := of_decide_eq_true c
    have c2 : s * (s + 1) < 2 * n := by exact_mod_cast c'
    refine ⟨fun σ' H2 => ∃ s' : Nat, s' = s + 1 ∧ σ' = [some (.int n), some (.int s')] ∧ H2 = H', fun σ' H2 h => ?_, ?_⟩
    · obtain ⟨s', rfl, e1, e2⟩ := h
      exact ⟨2 * n + 2 - (s + 1), by omega, s + 1, e1, e2, rfl, by omega, by rw [Nat.add_sub_cancel]; exact c2⟩
    · exact ⟨_, rfl, _, _, rfl, rfl, s + 1, rfl, rfl, rfl⟩
  · have c' : ¬ (s : Int) * ((s : Int) + 1) < 2 * (n : Int) := fun h => c (decide_eq_true h)
    have c2 : 2 * n ≤ s * (s + 1) := by
      have : ¬ s * (s + 1) < 2 * n := fun h => c' (by exact_mod_cast h)
      omega
    rw [← stair_uniq h1 g1 g2 c2] at q
    exact ⟨_, rfl, q⟩

end

section
variable {P : Program} {w : World} {K : PySem.W.Frag} {mg : Str → Option Value} {base : Heap}
theorem sc_law_by_marks : FnScope ["marks", "piles", "k", "pile"] ["marks"] (defScope s_law_by_marks) := ⟨rfl, rfl, rfl, by decide +kernel, rfl, by decide +kernel, by decide +kernel⟩
def sp_law_by_marks : Sp := fun vs H Q _ => ∃ (a : Addr) (ms : List Int), vs = [.ref a] ∧ IL H a ms ∧ ms.length ≤ 1000 ∧ NL Q H (ofMarks ms)
theorem ok_law_by_marks (T : Txt K mg) : Cal P w K mg base CX0 1 "_law_by_marks" ["marks"] sp_law_by_marks := by
  refine cal_mk T.d_law_by_marks sc_law_by_marks ?_ (fun _ _ _ _ _ _ us hl => match us, hl with | [_], _ => rfl) (fun f cdv A outer s H vs Q E hr h => ?_)
  · intro vs H Q E h
    obtain ⟨a, ms, rfl, _⟩ := h
    rfl
  obtain ⟨a, ms, rfl, hS, hl, q⟩ := h
  refine ⟨_, (pss_cons (ps_setLc (i := 1) (own := [("k", 2)]) (g := gName 2) rfl sc_law_by_marks.nd rfl rfl (sw_true rfl rfl rfl (by decide +kernel)) (pi_range1 (by rfl) T.m_range (pa_cons (pe_callB call_len_seq (by rfl) T.m_len PySem.boot_len (pa_cons (pv 0) pa_nil)) pa_nil)) (blkOk_by (own := [("k", 2)]) (N := ["marks", "piles", "k", "pile"]) (sc := defScope s_law_by_marks) (by decide +kernel)) (fun _ _ _ _ _ => pg_name (i := 2) sc_law_by_marks.nd rfl (Or.inl rfl)) (fun _ _ _ _ _ => pts_nil) (fun _ _ _ _ _ => (pe_op op_add (pe_op op_sub (pe_op op_sub (pe_callB (call_len_seqK K) (by rfl) T.m_len PySem.boot_len (pa_cons (pv 0) pa_nil)) pe_int) (pv 2)) (pe_ix (ix_listK K) (pv 0) (pv 2) (fun _ _ => rfl)))))
      (pss_one (ps_ret (pe_lc (own := [("pile", 3)]) (g := gName 3) rfl sc_law_by_marks.nd (pi_list (pv 1)) (blkOk_by (own := [("pile", 3)]) (N := ["marks", "piles", "k", "pile"]) (sc := defScope s_law_by_marks) (by decide +kernel)) (fun _ _ _ _ _ => pg_name (i := 3) sc_law_by_marks.nd rfl (Or.inl rfl)) (fun _ _ _ _ _ => (pts_one (pt_cmpR op_gt (pv 3) pe_int (nomark _)))) (fun _ _ _ _ _ => (pv 3)))))), ?_⟩
  refine ⟨_, rfl, a, _, rfl, .inl (sq hS), _, rfl, by rw [nlen]; omega, by rw [nlen]; omega, fun D nD => lc_range (lo := 0) (n := ((ms.map V.int).length : Int).toNat) (fun i H' => Same H H' ∧ IL H' D ((mk ms).take i)) ⟨same_new nD _, upd_same⟩ ?_ ?_⟩
  · intro i H' hi h
    obtain ⟨sm, eD⟩ := h
    rw [nlen] at hi
    have hi : i < ms.length := by omega
    refine ⟨rfl, _, rfl, a, _, rfl, .inl (sq (sm _ _ hS)), _, _, rfl, rfl, _, rfl, _, _, rfl, rfl, _, rfl, _, rfl, a, _, _, .int ms[i], rfl, rfl, sq (sm _ _ hS), at_of (j := i) (by omega) (int_get (List.getElem?_eq_getElem hi)), _, _, rfl, rfl, _, eD, ?_, same_mut sm nD _, ?_⟩
    · rw [nlen, List.length_take, mk_length]
      exact smallL (by omega)
    · have g := mk_get (List.getElem?_eq_getElem hi)
      show upd _ _ _ _ = _
      rw [upd_same, take_snoc g, List.map_append, nlen]
      congr 4
      simp
  · intro H1 h
    obtain ⟨sm, eD⟩ := h
    rw [nlen, Int.toNat_natCast, ← mk_length, List.take_length] at eD
    refine ⟨_, rfl, D, rfl, ⟨_, sq eD⟩, fun G nG => lc_list (K := K) (a := D) (xs := (mk ms).map V.int) (fun i H' => Same H1 H' ∧ IL H' G (((mk ms).take i).filter fun z => decide (z > 0))) ⟨same_new nG _, upd_same⟩ (fun i H' _ h => sq (h.1 _ _ eD)) ?_ ?_⟩
    · intro i x H' hx h
      obtain ⟨z, hz, rfl⟩ := get_int hx
      obtain ⟨sm2, eG⟩ := h
      refine ⟨rfl, _, rfl, _, _, rfl, rfl, _, rfl, ?_⟩
      rw [take_snoc hz, List.filter_append]
      refine ite2 (fun c => ?_) (fun c => ?_)
      · have c' : z > 0 := of_decide_eq_true c
        refine ⟨_, rfl, _, eG, ?_, same_mut sm2 nG _, ?_⟩
        · rw [nlen]
          have := List.length_filter_le (fun z => decide (z > 0)) ((mk ms).take i)
          rw [List.length_take, mk_length] at this
          exact smallL (by omega)
        · show upd _ _ _ _ = _
          rw [upd_same, List.map_append, List.filter_cons, if_pos (decide_eq_true c')] <;> rfl
      · have c' : ¬ z > 0 := fun h => c (decide_eq_true h)
        refine ⟨sm2, ?_⟩
        rw [List.filter_cons, if_neg (by simp only [decide_eq_true_eq]; exact c'), List.filter_nil, List.append_nil]
        exact eG
    · intro H2 h
      obtain ⟨sm2, eG⟩ := h
      rw [nlen, List.take_length] at eG
      exact q H2 G (sm.trans sm2) (sm.free nG) eG

end

section
variable {P : Program} {w : World} {K : PySem.W.Frag} {mg : Str → Option Value} {base : Heap}
theorem sc_law_drawn_marks : FnScope ["script", "k", "coins", "stair", "ones", "step", "marks", "j"] ["script", "k", "coins"] (defScope s_law_drawn_marks) := ⟨rfl, rfl, rfl, by decide +kernel, rfl, by decide +kernel, by decide +kernel⟩
theorem bits_sum_le {ms : List Int} (h : Bits ms) : 0 ≤ ms.sum := by
  induction ms with
  | nil => exact Int.le_refl 0
  | cons x r ih =>
    have := h x (List.mem_cons_self ..)
    have := ih fun z hz => h z (List.mem_cons_of_mem _ hz)
    rw [List.sum_cons]
    omega
theorem ins_facts {l : List Int} {j : Nat} {x : Int} : (∀ z, z ∈ l.take j ++ [x] ++ l.drop j ↔ z = x ∨ z ∈ l) ∧ (l.take j ++ [x] ++ l.drop j).sum = x + l.sum ∧ (l.take j ++ [x] ++ l.drop j).length = l.length + 1 := by
  have p : (l.take j ++ [x] ++ l.drop j).Perm (x :: l) := by
    have h := (List.perm_middle (a := x) (l₁ := l.take j) (l₂ := l.drop j))
    rw [List.take_append_drop] at h
    rw [List.append_assoc]
    exact h
  exact ⟨fun z => by rw [p.mem_iff, List.mem_cons], by rw [perm_sum p, List.sum_cons], p.length_eq⟩
def sp_law_drawn_marks (K : PySem.W.Frag) : Sp := fun vs H Q _ => ∃ (a : Addr) (ns : List Int) (k : Int) (n : Nat), vs = [.ref a, .int k, .int n] ∧ SL K H a ns ∧ 0 ≤ k ∧ 1 ≤ n ∧ n ≤ 100 ∧
  ∀ ms : List Int, Bits ms → ms.length = stair n → ms.sum = (restOf n : Int) → NL Q H ms
theorem ok_law_drawn_marks (T : Txt K mg) : Cal P w K mg base CX0 2 "_law_drawn_marks" ["script", "k", "coins"] (sp_law_drawn_marks K) := by
  have C_law_cell := ok_law_cell (P := P) (w := w) (base := base) T
  have C_law_next := ok_law_next (P := P) (w := w) (base := base) T
  have C_law_stair := ok_law_stair (P := P) (w := w) (base := base) T
  refine cal_mk T.d_law_drawn_marks sc_law_drawn_marks ?_ (fun _ _ _ _ _ _ us hl => match us, hl with | [_, _, _], _ => rfl) (fun f cdv A outer s H vs Q E hr h => ?_)
  · intro vs H Q E h
    obtain ⟨a, ns, k, n, rfl, _⟩ := h
    rfl
  obtain ⟨a, ns, k, n, rfl, hS, h0, h1, h2, q⟩ := h
  refine ⟨_, (pss_cons (ps_set (i := 3) sc_law_drawn_marks.nd rfl (Or.inl rfl) (pe_callF C_law_stair (hr.mono (by decide)) (pa_cons (pv 2) pa_nil)))
      (pss_cons (ps_set (i := 4) sc_law_drawn_marks.nd rfl (Or.inl rfl) (pe_op op_sub (pv 2) (pe_op op_fdiv (pe_op op_mul (pv 3) (pe_op op_sub (pv 3) pe_int)) pe_int)))
      (pss_cons (ps_set (i := 5) sc_law_drawn_marks.nd rfl (Or.inl rfl) (pe_callF C_law_next (hr.mono (by decide)) (pa_cons (pe_op op_add (pe_op op_mod (pe_op op_mul (pe_callF C_law_cell (hr.mono (by decide)) (pa_cons (pv 0) (pa_cons (pv 1) pa_nil))) pe_int) pe_int) pe_int) pa_nil)))
      (pss_cons (ps_set (i := 6) sc_law_drawn_marks.nd rfl (Or.inl rfl) (pe_lst pa_nil))
      (pss_cons (ps_for PassesOwn.never rfl (pi_range1 (by rfl) T.m_range (pa_cons (pv 3) pa_nil)) (pg_name (i := 7) sc_law_drawn_marks.nd rfl (Or.inl rfl))
      (pss_cons (ps_set (i := 5) sc_law_drawn_marks.nd rfl (Or.inl rfl) (pe_callF C_law_next (hr.mono (by decide)) (pa_cons (pv 5) pa_nil)))
      (pss_one (ps_expr (pe_bm PySem.F.plainAttrs_list PySem.F.slot_list_insert PySem.F.type_list_insert mt_insert (pv 6) (pa_cons (pe_op op_mod (pe_op op_fdiv (pv 5) pe_int) (pe_op op_add (pv 7) pe_int)) (pa_cons (pe_callTy call_int1 (by rfl) T.m_int (by decide +kernel) (pa_cons (pe_cmpR op_lt (pv 7) (pv 4) (nomark _)) pa_nil)) pa_nil)))))))
      (pss_one (ps_ret (pv 6)))))))), ?_⟩
  obtain ⟨r1, r2, r3⟩ := rest_spec h1
  have hs := stair_le h1 (b := 14) (by omega) (by omega)
  have hs1 := (stair_spec h1).1
  generalize hst : stair n = S at *
  generalize hro : restOf n = R at *
  refine ⟨_, rfl, n, rfl, h1, by omega, ?_⟩
  rw [hst]
  have e1 : (n : Int) - (S : Int) * ((S : Int) - 1) / 2 = (R : Int) := by
    have : (S : Int) * ((S : Int) - 1) = ((S * (S - 1) : Nat) : Int) := by
      rw [Int.natCast_mul]
      congr 1
      omega
    rw [this]
    omega
  refine ⟨_, rfl, _, rfl, _, rfl, _, _, rfl, rfl, _, _, rfl, rfl, .inl ⟨by omega, by omega⟩, _, _, rfl, rfl, ⟨by decide, by decide⟩, _, _, rfl, rfl, ?_⟩
  refine ⟨_, rfl, _, rfl, a, ns, k, rfl, hS, h0, fun z1 => ⟨_, _, rfl, rfl, .inr ⟨by decide, by decide⟩, _, _, rfl, rfl, (by show (0 : Int) < 2147483647; decide), _, _, rfl, rfl, _, rfl, fun z2 => ?_⟩⟩
  refine ⟨Nat.zero_le _, fun M nM => ?_⟩
  refine ⟨_, rfl, _, rfl, by omega, by omega, for_range (lo := 0) (n := (S : Int).toNat) (fun i σ H' => ∃ (st y : Option V) (ms : List Int), (∃ z, st = some (.int z)) ∧ σ = [some (.ref a), some (.int k), some (.int n), some (.int S), some (.int ((n : Int) - (S : Int) * ((S : Int) - 1) / 2)), st, some (.ref M), y] ∧
    Same H H' ∧ IL H' M ms ∧ Bits ms ∧ ms.length = i ∧ ms.sum = ((min i R : Nat) : Int)) ⟨_, none, [], ⟨z2, rfl⟩, rfl, same_new nM _, upd_same, (fun m hm => by cases hm), rfl, by rw [Nat.zero_min] <;> rfl⟩ ?_ ?_⟩
  · intro i σ H' hi h
    obtain ⟨_, y, ms, ⟨z, rfl⟩, rfl, sm, eM, hb, hlen, hsum⟩ := h
    refine ⟨_, rfl, z, rfl, fun z3 => ?_⟩
    refine ⟨_, rfl, Or.inl ⟨rfl, _, sq eM⟩, _, rfl, _, _, rfl, rfl, ⟨by decide, by decide⟩, _, rfl, _, _, rfl, rfl, _, _, rfl, rfl, (by show (0 : Int) < 0 + (i : Int) + 1; omega), _, rfl, _, rfl, _, _, rfl, rfl, Or.inr ⟨_, rfl, ?_⟩⟩
    have hmod := Int.emod_nonneg (z3 / 64) (show (0 : Int) + (i : Int) + 1 ≠ 0 by omega)
    have hmod2 := Int.emod_lt_of_pos (z3 / 64) (show (0 : Int) < 0 + (i : Int) + 1 by omega)
    generalize hJ : (z3 / 64) % ((0 : Int) + (i : Int) + 1) = J at hmod hmod2
    generalize hbit : (if decide ((0 : Int) + (i : Int) < (n : Int) - (S : Int) * ((S : Int) - 1) / 2) = true then (1 : Int) else 0) = B
    have hB : (i < R ∧ B = 1) ∨ (R ≤ i ∧ B = 0) := by
      by_cases c : i < R
      · rw [e1, if_pos (decide_eq_true (by omega))] at hbit
        exact .inl ⟨c, hbit.symm⟩
      · rw [e1, if_neg (fun h => by have := of_decide_eq_true h; omega)] at hbit
        exact .inr ⟨by omega, hbit.symm⟩
    refine ⟨M, ms.map V.int, J, .int B, rfl, by rw [← hJ, ← hbit] <;> rfl, eM, by rw [nlen]; exact smallL (by omega), hmod, by omega, ?_⟩
    obtain ⟨f1, f2, f3⟩ := ins_facts (l := ms) (j := J.toNat) (x := B)
    refine ⟨_, _, ms.take J.toNat ++ [B] ++ ms.drop J.toNat, ⟨z3, rfl⟩, rfl, same_mut sm nM _, ?_, fun m hm => ?_, by omega, ?_⟩
    · show upd _ _ _ _ = _
      rw [upd_same, List.map_append, List.map_append, List.map_take, List.map_drop] <;> rfl
    · rcases (f1 m).mp hm with e | e
      · omega
      · exact hb m e
    · rw [f2, hsum]
      omega
  · intro σ H' h
    obtain ⟨_, y, ms, ⟨z, rfl⟩, rfl, sm, eM, hb, hlen, hsum⟩ := h
    refine ⟨_, rfl, q ms hb (by omega) (by rw [hsum]; omega) H' M sm nM eM⟩

end

section
variable {P : Program} {w : World} {K : PySem.W.Frag} {mg : Str → Option Value} {base : Heap}
theorem sc_law_ints : FnScope ["found", "due", "k"] ["found", "due"] (defScope s_law_ints) := ⟨rfl, rfl, rfl, by decide +kernel, rfl, by decide +kernel, by decide +kernel⟩
def sp_law_ints : Sp := fun vs H Q _ => ∃ (f d : Addr) (xs ns : List Int), vs = [.ref f, .ref d] ∧ IL H f xs ∧ IL H d ns ∧ ns.length ≤ 100000 ∧ Q (.bl (decide (xs = ns))) H
theorem ok_law_ints (T : Txt K mg) : Cal P w K mg base CX0 1 "_law_ints" ["found", "due"] sp_law_ints := by
  refine cal_mk T.d_law_ints sc_law_ints ?_ (fun _ _ _ _ _ _ us hl => match us, hl with | [_, _], _ => rfl) (fun f cdv A outer s H vs Q E hr h => ?_)
  · intro vs H Q E h
    obtain ⟨f, d, xs, ns, rfl, _⟩ := h
    rfl
  obtain ⟨f, d, xs, ns, rfl, hF, hD, hl, q⟩ := h
  refine ⟨_, (pss_cons (ps_if (PW.pt (pw_or (pt_not (pt_val (pe_callB call_isi (by rfl) T.m_isinstance (by decide +kernel) (pa_cons (pv 0) (pa_cons (pe_bltn (v := .ty "list") (by rfl) T.m_list (by decide +kernel) rfl) pa_nil))))) (pw_or1 (pt_cmpR op_ne (pe_callB call_len_seq (by rfl) T.m_len PySem.boot_len (pa_cons (pv 0) pa_nil)) (pe_callB call_len_seq (by rfl) T.m_len PySem.boot_len (pa_cons (pv 1) pa_nil)) (nomark _)))))
      (pss_one (ps_ret pe_bl)) pss_nil)
      (pss_cons (ps_for PassesOwn.never rfl (pi_range1 (by rfl) T.m_range (pa_cons (pe_callB call_len_seq (by rfl) T.m_len PySem.boot_len (pa_cons (pv 1) pa_nil)) pa_nil)) (pg_name (i := 2) sc_law_ints.nd rfl (Or.inl rfl))
      (pss_one (ps_if (PW.pt (pw_or (pt_not (pt_val (pe_callB call_isi (by rfl) T.m_isinstance (by decide +kernel) (pa_cons (pe_ix ix_list (pv 0) (pv 2) (fun _ _ => rfl)) (pa_cons (pe_bltn (v := .ty "int") (by rfl) T.m_int (by decide +kernel) rfl) pa_nil))))) (pw_or (pt_val (pe_callB call_isi (by rfl) T.m_isinstance (by decide +kernel) (pa_cons (pe_ix ix_list (pv 0) (pv 2) (fun _ _ => rfl)) (pa_cons (pe_bltn (v := .ty "bool") (by rfl) T.m_bool (by decide +kernel) rfl) pa_nil)))) (pw_or1 (pt_cmpR op_ne (pe_ix ix_list (pv 0) (pv 2) (fun _ _ => rfl)) (pe_ix ix_list (pv 1) (pv 2) (fun _ _ => rfl)) (nomark _))))))
      (pss_one (ps_ret pe_bl)) pss_nil)))
      (pss_one (ps_ret pe_bl)))), ?_⟩
  -- not a list, or of another length
  refine ⟨_, rfl, _, .ty "list", .type "list", .type "list", true, rfl, ClsV.ty _, .base (.lst hF), kit_ty (by decide +kernel), true, rfl, ?_⟩
  refine ⟨_, rfl, f, _, rfl, .inl (sq hF), _, rfl, d, _, rfl, .inl (sq hD), rfl, _, rfl, ?_⟩
  rw [nlen, nlen]
  refine ite2 (fun c => ?_) (fun c => ?_)
  · have c' : ¬ xs = ns := fun e => by
      rw [e] at c
      simp at c
    rw [decide_eq_false c'] at q
    exact q
  · have hlen : xs.length = ns.length := by
      have : ¬ ¬ (V.int (xs.length : Int) = V.int (ns.length : Int)) := fun h => c (by rw [decide_eq_false h] <;> rfl)
      have := V.int.inj (Decidable.not_not.mp this)
      omega
    refine ⟨_, rfl, d, _, rfl, .inl (sq hD), _, rfl, by rw [nlen]; omega, by rw [nlen]; omega, for_range (lo := 0) (n := ((ns.map V.int).length : Int).toNat) (fun i σ H' => ∃ y, σ = [some (.ref f), some (.ref d), y] ∧ H' = H ∧ xs.take i = ns.take i) ⟨none, rfl, rfl, rfl⟩ ?_ ?_⟩
    · intro i σ H' hi h
      obtain ⟨y, rfl, rfl, ht⟩ := h
      rw [nlen] at hi
      have hi : i < ns.length := by omega
      have gx : xs[i]? = some xs[i] := List.getElem?_eq_getElem (by omega)
      have gn : ns[i]? = some ns[i] := List.getElem?_eq_getElem hi
      have ax : atI (xs.map V.int) (0 + (i : Int)) = some (.int xs[i]) := at_of (j := i) (by omega) (int_get gx)
      have an : atI (ns.map V.int) (0 + (i : Int)) = some (.int ns[i]) := at_of (j := i) (by omega) (int_get gn)
      refine ⟨_, rfl, _, rfl, f, _, _, .int xs[i], rfl, rfl, sq hF, ax, .int xs[i], .ty "int", .type "int", .type "int", true, rfl, ClsV.ty _, .base (.int _), kit_ty (by decide +kernel), true, rfl, ?_⟩
      refine ⟨_, rfl, _, rfl, f, _, _, .int xs[i], rfl, rfl, sq hF, ax, .int xs[i], .ty "bool", .type "int", .type "bool", false, rfl, ClsV.ty _, .base (.int _), kit_ty (by decide +kernel), false, rfl, ?_⟩
      refine ⟨_, rfl, _, rfl, f, _, _, .int xs[i], rfl, rfl, sq hF, ax, _, rfl, _, rfl, d, _, _, .int ns[i], rfl, rfl, sq hD, an, rfl, _, rfl, ite2 (fun c => ?_) (fun c => ?_)⟩
      · have c' : ¬ xs = ns := fun e => by
          subst e
          simp at c
        rw [decide_eq_false c'] at q
        exact q
      · have e : xs[i] = ns[i] := by
          have : ¬ ¬ (V.int xs[i] = V.int ns[i]) := fun h => c (by rw [decide_eq_false h] <;> rfl)
          exact V.int.inj (Decidable.not_not.mp this)
        exact ⟨_, rfl, rfl, by rw [take_snoc gx, take_snoc gn, ht, e]⟩
    · intro σ H' h
      obtain ⟨y, rfl, rfl, ht⟩ := h
      rw [nlen, Int.toNat_natCast, ← hlen, List.take_length, hlen, List.take_length] at ht
      rw [decide_eq_true ht] at q
      exact q

end

section
variable {P : Program} {w : World} {K : PySem.W.Frag} {mg : Str → Option Value} {base : Heap}
theorem sc_law_lists_like : FnScope ["found", "due", "one", "other"] ["found", "due"] (defScope s_law_lists_like) := ⟨rfl, rfl, rfl, by decide +kernel, rfl, by decide +kernel, by decide +kernel⟩
def sp_law_lists_like : Sp := fun vs H Q _ => ∃ (f d : Addr) (fs ds : List Addr) (xs ns : List (List Int)), vs = [.ref f, .ref d] ∧ LL H f fs xs ∧ LL H d ds ns ∧ (∀ n ∈ ns, n.length ≤ 1000) ∧ ∀ H', Same H H' → Q (.bl (decide (xs = ns))) H'
theorem ok_law_lists_like (T : Txt K mg) : Cal P w K mg base CX0 2 "_law_lists_like" ["found", "due"] sp_law_lists_like := by
  have C_law_ints := ok_law_ints (P := P) (w := w) (base := base) T
  refine cal_mk T.d_law_lists_like sc_law_lists_like ?_ (fun _ _ _ _ _ _ us hl => match us, hl with | [_, _], _ => rfl) (fun f cdv A outer s H vs Q E hr h => ?_)
  · intro vs H Q E h
    obtain ⟨f, d, fs, ds, xs, ns, rfl, _⟩ := h
    rfl
  obtain ⟨f, d, fs, ds, xs, ns, rfl, ⟨hF, hfs⟩, ⟨hD, hds⟩, hl, q⟩ := h
  have l1 := hfs.len
  have l2 := hds.len
  refine ⟨_, (pss_cons (ps_if (PW.pt (pw_or (pt_not (pt_val (pe_callB call_isi (by rfl) T.m_isinstance (by decide +kernel) (pa_cons (pv 0) (pa_cons (pe_bltn (v := .ty "list") (by rfl) T.m_list (by decide +kernel) rfl) pa_nil))))) (pw_or1 (pt_cmpR op_ne (pe_callB call_len_seq (by rfl) T.m_len PySem.boot_len (pa_cons (pv 0) pa_nil)) (pe_callB call_len_seq (by rfl) T.m_len PySem.boot_len (pa_cons (pv 1) pa_nil)) (nomark _)))))
      (pss_one (ps_ret pe_bl)) pss_nil)
      (pss_cons (ps_for PassesOwn.never rfl (pi_zip (by rfl) T.m_zip (pa_cons (pv 0) (pa_cons (pv 1) pa_nil))) (pg_tup rfl (pgs_cons (pg_name (i := 2) sc_law_lists_like.nd rfl (Or.inl rfl)) (pgs_cons (pg_name (i := 3) sc_law_lists_like.nd rfl (Or.inl rfl)) pgs_nil)))
      (pss_one (ps_if (pt_not (pt_val (pe_callF C_law_ints (hr.mono (by decide)) (pa_cons (pv 2) (pa_cons (pv 3) pa_nil)))))
      (pss_one (ps_ret pe_bl)) pss_nil)))
      (pss_one (ps_ret pe_bl)))), ?_⟩
  refine ⟨_, rfl, _, .ty "list", .type "list", .type "list", true, rfl, ClsV.ty _, .base (.lst hF), kit_ty (by decide +kernel), true, rfl, ?_⟩
  refine ⟨_, rfl, f, _, rfl, .inl (sq hF), _, rfl, d, _, rfl, .inl (sq hD), rfl, _, rfl, ite2 (fun c => ?_) (fun c => ?_)⟩
  · have c' : ¬ xs = ns := fun e => by
      rw [rlen, rlen, l1, l2, e] at c
      simp at c
    have := q H (Same.refl H)
    rw [decide_eq_false c'] at this
    exact this
  · have hlen : fs.length = ds.length := by
      have : ¬ ¬ (V.int ((fs.map V.ref).length : Int) = V.int ((ds.map V.ref).length : Int)) := fun h => c (by rw [decide_eq_false h] <;> rfl)
      have := V.int.inj (Decidable.not_not.mp this)
      rw [rlen, rlen] at this
      omega
    refine ⟨_, rfl, _, rfl, f, d, _, _, rfl, sq hF, sq hD, RZ.for_zipL (K := K) (xs := fs.map V.ref) (ys := ds.map V.ref) (by rw [rlen, rlen, hlen]) (fun i σ H' => ∃ y1 y2, σ = [some (.ref f), some (.ref d), y1, y2] ∧ Same H H' ∧ xs.take i = ns.take i)
      ⟨none, none, rfl, Same.refl H, rfl⟩ (fun i σ H' h => by obtain ⟨_, _, _, sm, _⟩ := h; exact ⟨sq (sm _ _ hF), sq (sm _ _ hD)⟩) ?_ ?_⟩
    · intro i x y Tp σ H' hx hy h nT
      obtain ⟨y1, y2, rfl, sm, ht⟩ := h
      obtain ⟨fa, hfa, rfl⟩ := get_ref hx
      obtain ⟨da, hda, rfl⟩ := get_ref hy
      have sT := same_new nT (.tup [V.ref fa, V.ref da])
      obtain ⟨m, hm, efa⟩ := hfs.get hfa
      obtain ⟨n, hn, eda⟩ := hds.get hda
      refine ⟨Tp, [.ref fa, .ref da], rfl, .inl (.inl upd_same), rfl, .ref fa, [.ref da], rfl, .ref da, [], rfl, rfl, ?_⟩
      refine ⟨_, rfl, _, rfl, fa, da, m, n, rfl, sT _ _ (sm _ _ efa), sT _ _ (sm _ _ eda), by have := hl n (List.mem_of_getElem? hn); omega, _, rfl, ?_⟩
      refine ite2 (fun c => ?_) (fun c => ?_)
      · have c' : ¬ xs = ns := fun e => by
          subst e
          rw [hm] at hn
          obtain rfl := Option.some.inj hn
          simp at c
        have := q _ (sm.trans sT)
        rw [decide_eq_false c'] at this
        exact this
      · have e : m = n := by
          by_cases e : m = n
          · exact e
          · exact absurd (by rw [decide_eq_false e] <;> rfl) c
        exact ⟨_, _, rfl, sm.trans sT, by rw [take_snoc hm, take_snoc hn, ht, e]⟩
    · intro σ H' h
      obtain ⟨y1, y2, rfl, sm, ht⟩ := h
      have e : xs = ns := by
        rw [rlen] at ht
        rwa [List.take_of_length_le (by omega), List.take_of_length_le (by omega)] at ht
      have := q H' sm
      rw [decide_eq_true e] at this
      exact this

end

/-! ### the law -/
def spLaw (K : PySem.W.Frag) : Sp := fun vs H Q _ => ∃ (a : Addr) (ns : List Int), vs = [.ref a] ∧ SL K H a ns ∧ ns.length ≤ 63 ∧ ∀ H', Q (.bl true) H'
theorem nat_of {z : Int} {m : Int} (h : 0 < m) : ∃ n : Nat, 1 + z % m = (n : Int) ∧ 1 ≤ n ∧ (n : Int) ≤ m := by
  have h1 := Int.emod_nonneg z (show m ≠ 0 by omega)
  have h2 := Int.emod_lt_of_pos z h
  exact ⟨(1 + z % m).toNat, by omega, by omega, by omega⟩

section
variable {P : Program} {w : World} {K : PySem.W.Frag} {mg : Str → Option Value} {base : Heap}
theorem sc_law : FnScope ["script", "marks", "first", "here", "due", "turn", "found"] ["script"] (defScope s_law) := ⟨rfl, rfl, rfl, by decide +kernel, rfl, by decide +kernel, by decide +kernel⟩
theorem ring_mem {x : List Int} {d : Nat} (h : Ring x d) : ∀ i, turnN i x ∈ ringL d x := fun i => by
  induction i using Nat.strongRecOn with
  | ind i ih =>
    rcases Nat.lt_or_ge i d with l | l
    · exact mem_ringL.mpr ⟨i, l, rfl⟩
    · have hp := h.pos
      have := ih (i - d) (by omega)
      rw [show i = (i - d) + d by omega, turnN_add, h.back]
      exact this
theorem one_mem {ms : List Int} (h : Bits ms) (h1 : 1 ≤ ms.sum) : 1 ∈ ms := by
  induction ms with
  | nil => exact absurd h1 (by decide)
  | cons m r ih =>
    rcases h m (List.mem_cons_self ..) with rfl | rfl
    · rw [List.sum_cons] at h1
      exact List.mem_cons_of_mem _ (ih (fun z hz => h z (List.mem_cons_of_mem _ hz)) (by omega))
    · exact List.mem_cons_self ..
theorem ok_law_at (T : Txt K mg) {f : Addr} {fd : FuncData} (F : FunD K "law" "law" (defArgs s_law) (defBody s_law) (defScope s_law) [] [] f fd) : FnOk P w K mg base CX0 4 f fd ["script"] (spLaw K) := by
  have C_law_by_marks := ok_law_by_marks (P := P) (w := w) (base := base) T
  have C_law_cell := ok_law_cell (P := P) (w := w) (base := base) T
  have C_law_drawn_marks := ok_law_drawn_marks (P := P) (w := w) (base := base) T
  have C_law_ints := ok_law_ints (P := P) (w := w) (base := base) T
  have C_law_lists_like := ok_law_lists_like (P := P) (w := w) (base := base) T
  have C_marks_of := ok_marks_of (P := P) (w := w) (base := base) T
  have C_ring_of := ok_ring_of (P := P) (w := w) (base := base) T
  have C_setting_of := ok_setting_of (P := P) (w := w) (base := base) T
  have C_turned := ok_turned (P := P) (w := w) (base := base) T
  refine F.ok sc_law (fun vs H Q E h => ?_) (fun cdv A outer s H vs Q E hr h => ?_)
  · obtain ⟨a, ns, rfl, _⟩ := h
    rfl
  obtain ⟨a, ns, rfl, hS, hlen, q⟩ := h
  refine ⟨_, PSs.nox ((pss_cons (ps_set (i := 1) sc_law.nd rfl (Or.inl rfl) (pe_callF C_law_drawn_marks (hr.mono (by decide)) (pa_cons (pv 0) (pa_cons pe_int (pa_cons (pe_op op_add pe_int (pe_op op_mod (pe_callF C_law_cell (hr.mono (by decide)) (pa_cons (pv 0) (pa_cons pe_int pa_nil))) pe_int)) pa_nil)))))
      (pss_cons (ps_set (i := 2) sc_law.nd rfl (Or.inl rfl) (pe_callF C_law_by_marks (hr.mono (by decide)) (pa_cons (pv 1) pa_nil)))
      (pss_cons (ps_set (i := 3) sc_law.nd rfl (Or.inl rfl) (pe_callTy call_list_of (by rfl) T.m_list (by decide +kernel) (pa_cons (pv 2) pa_nil)))
      (pss_cons (ps_set (i := 4) sc_law.nd rfl (Or.inl rfl) (pe_lst pa_nil))
      (pss_cons (ps_for PassesOwn.never rfl (pi_range1 (by rfl) T.m_range (pa_cons (pe_callB call_len_seq (by rfl) T.m_len PySem.boot_len (pa_cons (pv 1) pa_nil)) pa_nil)) (pg_name (i := 5) sc_law.nd rfl (Or.inl rfl))
      (pss_cons (ps_if (PW.pt (pw_or (pt_not (pt_val (pe_callF C_law_ints (hr.mono (by decide)) (pa_cons (pe_callF C_marks_of (hr.mono (by decide)) (pa_cons (pe_callTy call_list_of (by rfl) T.m_list (by decide +kernel) (pa_cons (pv 3) pa_nil)) pa_nil)) (pa_cons (pv 1) pa_nil))))) (pw_or1 (pt_not (pt_val (pe_callF C_law_ints (hr.mono (by decide)) (pa_cons (pe_callF C_setting_of (hr.mono (by decide)) (pa_cons (pe_callTy call_list_of (by rfl) T.m_list (by decide +kernel) (pa_cons (pv 1) pa_nil)) pa_nil)) (pa_cons (pv 3) pa_nil))))))))
      (pss_one (ps_ret pe_bl)) pss_nil)
      (pss_cons (ps_if (pt_cmpR (op_notInD (hu65 hr)) (pv 3) (pv 4) rfl)
      (pss_one (ps_expr (pe_bm PySem.F.plainAttrs_list PySem.F.slot_list_append PySem.F.type_list_append mt_append (pv 4) (pa_cons (pv 3) pa_nil)))) pss_nil)
      (pss_cons (ps_set (i := 3) sc_law.nd rfl (Or.inl rfl) (pe_callF C_turned (hr.mono (by decide)) (pa_cons (pe_callTy call_list_of (by rfl) T.m_list (by decide +kernel) (pa_cons (pv 3) pa_nil)) pa_nil)))
      (pss_one (ps_set (i := 1) sc_law.nd rfl (Or.inl rfl) (pe_op op_cat (pe_lst (pa_cons (pe_ix ix_list (pv 1) (pe_un un_neg pe_int) (fun _ _ => rfl)) pa_nil)) (pe_slice sl_list (pv 1) po_none (po_some (pe_un un_neg pe_int))))))))))
      (pss_cons (ps_if (pt_not (pt_val (pe_callF C_law_ints (hr.mono (by decide)) (pa_cons (pv 3) (pa_cons (pv 2) pa_nil)))))
      (pss_one (ps_ret pe_bl)) pss_nil)
      (pss_cons (ps_set (i := 6) sc_law.nd rfl (Or.inl rfl) (pe_callF C_ring_of (hr.mono (by decide)) (pa_cons (pe_callTy call_list_of (by rfl) T.m_list (by decide +kernel) (pa_cons (pv 2) pa_nil)) pa_nil)))
      (pss_cons (ps_if (pt_not (pt_val (pe_callF C_law_lists_like (hr.mono (by decide)) (pa_cons (pv 6) (pa_cons (pv 4) pa_nil)))))
      (pss_one (ps_ret pe_bl)) pss_nil)
      (pss_cons (ps_expr (pe_bm PySem.F.plainAttrs_list PySem.F.slot_list_append PySem.F.type_list_append mt_append (pe_ix ix_list (pv 6) pe_int (fun _ _ => rfl)) (pa_cons pe_int pa_nil)))
      (pss_cons (ps_expr (pe_bm0 PySem.F.plainAttrs_list PySem.F.slot_list_clear PySem.F.type_list_clear mt_clear (pv 6)))
      (pss_one (ps_ret (pe_callF C_law_lists_like (hr.mono (by decide)) (pa_cons (pe_callF C_ring_of (hr.mono (by decide)) (pa_cons (pe_callTy call_list_of (by rfl) T.m_list (by decide +kernel) (pa_cons (pv 2) pa_nil)) pa_nil)) (pa_cons (pv 4) pa_nil)))))))))))))))), ?_⟩
  refine ⟨_, rfl, _, rfl, a, ns, 0, rfl, hS, by omega, fun z => ⟨_, _, rfl, rfl, (by show (0 : Int) < 100; decide), _, _, rfl, rfl, ?_⟩⟩
  obtain ⟨n, en, n1, n2⟩ := nat_of (z := z) (m := 100) (by decide)
  refine ⟨a, ns, 1, n, by rw [← en] <;> rfl, hS, by omega, n1, by omega, fun ms hb hml hms H1 m sm1 nm em => ?_⟩
  have hst := stair_le n1 (b := 14) (by omega) (by omega)
  have hr1 := (rest_spec n1).1
  have hsum : 1 ≤ ms.sum := by omega
  have hset : IsSet n (ofMarks ms) := ofMarks_set n1 hb hml hms
  obtain ⟨d, hd, hring⟩ := ofMarks_ring hb hsum
  have hrot := rotN_facts hb hsum
  have hmsl := (bits_sum_range hb).2
  have hway : Way (ofMarks ms) 0 := ⟨fun j hj => by omega, by
    show marksBy (ofMarks ms) ≠ []
    rw [marksBy_of hb hsum]
    intro e
    rw [e] at hsum
    exact absurd hsum (by decide)⟩
  -- first, here, due
  refine ⟨_, rfl, m, ms, rfl, em, by omega, fun H2 f sm2 nf ef => ?_⟩
  refine ⟨_, rfl, f, _, rfl, .inl (sq ef), fun h nh => ?_⟩
  have sm3 := same_new nh (.lst ((ofMarks ms).map V.int))
  have eh : IL (upd H2 h (.lst ((ofMarks ms).map V.int))) h (ofMarks ms) := upd_same
  have ef3 := sm3 _ _ ef
  have em3 := sm3 _ _ (sm2 _ _ em)
  have hS3 := sm3.seq (sm2.seq (sm1.seq hS))
  generalize upd H2 h (.lst ((ofMarks ms).map V.int)) = H3 at *
  refine ⟨Nat.zero_le _, fun D nD => ?_⟩
  have sm4 := same_new nD (.lst ([] : List V))
  have eD : (upd H3 D (.lst ([] : List V))) D = some (.lst ([] : List V)) := upd_same
  have hx := hring
  have hSD := SL.apart hS3 nD
  generalize hxe : ofMarks ms = x at *
  refine ⟨_, rfl, m, _, rfl, .inl (sq (sm4 _ _ em3)), _, rfl, by rw [nlen]; omega, by rw [nlen]; omega, for_range (lo := 0) (n := ((ms.map V.int).length : Int).toNat) (fun i σ H' => ∃ (m h : Addr) (as : List Addr) (y : Option V), σ = [some (.ref a), some (.ref m), some (.ref f), some (.ref h), some (.ref D), y, none] ∧
      SL K H' a ns ∧ IL H' m (rotN i ms) ∧ IL H' f x ∧ IL H' h (turnN i x) ∧ LL H' D as (ringL (min i d) x) ∧ m ≠ D ∧ f ≠ D ∧ h ≠ D ∧ ∀ c ∈ as, c ≠ D)
    ⟨m, h, [], none, rfl, sm4.seq hS3, sm4 _ _ em3, sm4 _ _ ef3, sm4 _ _ eh, ⟨eD, by rw [Nat.zero_min]; exact trivial⟩, ne_of_none em3 nD, ne_of_none ef3 nD, ne_of_none eh nD, fun c hc => by cases hc⟩ ?_ ?_⟩
  · intro i σ H' hi h
    clear em3 ef3 eh eD sm4 hS3
    obtain ⟨m, h, as, y, rfl, hS', em, ef, eh, ⟨eD, hLL⟩, nmD, nfD, nhD, has⟩ := h
    rw [nlen] at hi
    have hi : i < ms.length := by omega
    obtain ⟨r1, r2, r3, r4⟩ := hrot i
    have hti : IsSet n (turnN i x) := turnN_set hset
    have htl := hti.len
    have hmb : marksBy (turnN i x) = rotN i ms := by
      rw [r4]
      exact marksBy_of r1 (by omega)
    have hal := hLL.len
    rw [ringL_len] at hal
    -- marks_of(list(here))
    refine ⟨_, rfl, h, _, rfl, .inl (sq eh), fun p1 n1' => ?_⟩
    have s1 := same_new n1' (.lst ((turnN i x).map V.int))
    refine ⟨p1, _, rfl, upd_same, hti.1, by rw [hti.2]; omega, by rw [hmb]; intro e; rw [e] at r2; rw [← r2] at hsum; exact absurd hsum (by decide), fun H5 p2 s2 n2' e2 => ?_⟩
    rw [hmb] at e2
    have sA := s1.trans s2
    refine ⟨_, rfl, p2, m, _, _, rfl, e2, sA _ _ em, by omega, _, rfl, ?_⟩
    rw [decide_eq_true rfl]
    -- setting_of(list(marks))
    refine ⟨_, rfl, m, _, rfl, .inl (sq (sA _ _ em)), fun p3 n3 => ?_⟩
    have s3 := same_new n3 (.lst ((rotN i ms).map V.int))
    have hsI : (ofMarks (rotN i ms)).sum ≤ 100 := by
      rw [← r4, hti.2]
      omega
    refine ⟨p3, _, rfl, upd_same, r1, one_mem r1 (by omega), by omega, hsI, fun H6 p4 s4 n4 e4 => ?_⟩
    rw [← r4] at e4
    have sB := (sA.trans s3).trans s4
    refine ⟨_, rfl, p4, h, _, _, rfl, e4, sB _ _ eh, by omega, _, rfl, ?_⟩
    refine ite2 (fun c => absurd c (by rw [decide_eq_true rfl] <;> decide)) (fun _ => ?_)
    -- if here not in due: due.append(here)
    have eh6 := sB _ _ eh
    have eD6 := sB _ _ eD
    have hLL6 := hLL.same sB
    have em6 := sB _ _ em
    have ef6 := sB _ _ ef
    have hS6 := sB.seq hS'
    clear s1 s2 s3 s4 sA sB em ef eh eD hLL hS' e2 e4 n1' n2' n3 n4
    refine ⟨_, rfl, _, rfl, toD (turnN i x), (ringL (min i d) x).map toD, dp_ints (sq eh6), dp_ll ⟨eD6, hLL6⟩, sh_ints _, sh_lls _, _, rfl, ite2 (fun c => ?w1) (fun c => ?w2)⟩
    case' w1 =>
      have hnot : ¬ turnN i x ∈ ringL (min i d) x := fun hm => by
        rw [any_lls, decide_eq_true hm] at c
        cases c
      have hid : i < d := by
        rcases Nat.lt_or_ge i d with l | l
        · exact l
        · rw [Nat.min_eq_right l] at hnot
          exact absurd (ring_mem hx i) hnot
      have hmin : ringL (min (i + 1) d) x = ringL (min i d) x ++ [turnN i x] := by
        rw [Nat.min_eq_left (by omega), Nat.min_eq_left (by omega), ringL_succ]
      refine ⟨_, rfl, .inl ⟨rfl, _, sq eD6⟩, _, rfl, D, _, _, rfl, rfl, eD6, by rw [rlen]; exact smallL (by omega), ?_⟩
      have ehN : IL (upd H6 D (.lst (as.map V.ref ++ [V.ref h]))) h (turnN i x) := by show upd _ _ _ _ = _; rw [upd_ne nhD]; exact eh6
      have emN : IL (upd H6 D (.lst (as.map V.ref ++ [V.ref h]))) m (rotN i ms) := by show upd _ _ _ _ = _; rw [upd_ne nmD]; exact em6
      have efN : IL (upd H6 D (.lst (as.map V.ref ++ [V.ref h]))) f x := by show upd _ _ _ _ = _; rw [upd_ne nfD]; exact ef6
      have hDN : ∃ bs : List Addr, LL (upd H6 D (.lst (as.map V.ref ++ [V.ref h]))) D bs (ringL (min (i + 1) d) x) ∧ ∀ c ∈ bs, c ≠ D := ⟨as ++ [h], ⟨by rw [upd_same, List.map_append] <;> rfl, by rw [hmin]; exact (hLL6.upd has).app ⟨ehN, trivial⟩⟩, fun c hc => by
        rcases List.mem_append.mp hc with hc | hc
        · exact has c hc
        · rw [List.mem_singleton.mp hc]
          exact nhD⟩
      have hSN : SL K (upd H6 D (.lst (as.map V.ref ++ [V.ref h]))) a ns := SL.upd hS6 hSD
      generalize upd H6 D (.lst (as.map V.ref ++ [V.ref h])) = H7 at *
    case' w2 =>
      have hin : turnN i x ∈ ringL (min i d) x := by
        by_cases hm : turnN i x ∈ ringL (min i d) x
        · exact hm
        · rw [any_lls, decide_eq_false hm] at c
          exact absurd rfl c
      have hid : d ≤ i := by
        rcases Nat.lt_or_ge i d with l | l
        · rw [Nat.min_eq_left (by omega)] at hin
          obtain ⟨j, hj, e⟩ := mem_ringL.mp hin
          exact absurd e (hx.inj hj l)
        · exact l
      have ehN := eh6
      have emN := em6
      have efN := ef6
      have hSN := hS6
      have hDN : ∃ bs : List Addr, LL H6 D bs (ringL (min (i + 1) d) x) ∧ ∀ c ∈ bs, c ≠ D := ⟨as, ⟨eD6, by rw [Nat.min_eq_right (by omega)]; rw [Nat.min_eq_right (by omega)] at hLL6; exact hLL6⟩, has⟩
      generalize H6 = H7 at *
    all_goals
      clear eh6 em6 ef6 hS6 eD6 hLL6
      obtain ⟨bs, hD7, hbs⟩ := hDN
      -- here = turned(list(here))
      refine ⟨_, rfl, h, _, rfl, .inl (sq ehN), fun p1 n1' => ?_⟩
      have s1 := same_new n1' (.lst ((turnN i x).map V.int))
      refine ⟨p1, _, rfl, upd_same, hti.1, by rw [hti.2]; omega, fun H8 h' s2 nh' eh' => ?_⟩
      have sA := s1.trans s2
      have nh'D : h' ≠ D := (ne_of_none (s1 _ _ hD7.1) nh').symm
      -- marks = [marks[-1]] + marks[:-1]
      obtain ⟨l, zz, hlz⟩ := snoc_of (ms := rotN i ms) (fun e => by rw [e] at r2; rw [← r2] at hsum; exact absurd hsum (by decide))
      have emA := sA _ _ emN
      have hv : (rotN i ms).map V.int = l.map V.int ++ [V.int zz] := by rw [hlz, List.map_append] <;> rfl
      refine ⟨_, rfl, _, rfl, m, _, _, .int zz, rfl, rfl, sq emA, by rw [hv]; exact atI_last _ _, (by show 1 ≤ sizeLine; decide), fun p2 n2' => ?_⟩
      have s3 := same_new n2' (.lst [V.int zz])
      refine ⟨_, rfl, _, rfl, _, rfl, m, _, rfl, sq (s3 _ _ emA), fun p3 n3 => ?_⟩
      rw [hv, cut_butlast, List.dropLast_concat]
      have s4 := same_new n3 (.lst (l.map V.int))
      have hll : l.length ≤ 14 := by
        have := congrArg List.length hlz
        rw [List.length_append, List.length_singleton] at this
        omega
      refine ⟨p2, p3, _, _, rfl, rfl, s4 p2 (.lst [V.int zz]) upd_same, upd_same, by rw [nlen]; exact small (by show 1 + l.length ≤ _; omega), fun m' nm' => ?_⟩
      have s5 := same_new nm' (.lst ([V.int zz] ++ l.map V.int))
      have sB := ((sA.trans s3).trans s4).trans s5
      have nm'D : m' ≠ D := (ne_of_none (s4 _ _ (s3 _ _ (sA _ _ hD7.1))) nm').symm
      refine ⟨m', h', bs, _, rfl, sB.seq hSN, ?_, sB _ _ efN, ?_, ⟨sB _ _ hD7.1, hD7.2.same sB⟩, nm'D, nfD, nh'D, hbs⟩
      · show upd _ _ _ _ = _
        rw [upd_same]
        show _ = some (HO.lst ((rot (rotN i ms)).map V.int))
        rw [hlz, rot_snoc] <;> rfl
      · rw [turnN_succ]
        exact s5 _ _ (s4 _ _ (s3 _ _ eh'))
  · intro σ H' h
    obtain ⟨m, h, as, y, rfl, hS', em, ef, eh, hD, nmD, nfD, nhD, has⟩ := h
    rw [nlen, Int.toNat_natCast] at eh em hD
    have hback : turnN ms.length x = x := by
      rw [(hrot ms.length).2.2.2, rotN_len, hxe]
    rw [hback] at eh
    rw [Nat.min_eq_right hd] at hD
    have hxl := hset.len
    have hw0 : turnN 0 x = x := rfl
    -- if not _law_ints(here, first)
    refine ⟨_, rfl, _, rfl, h, f, _, _, rfl, eh, ef, by omega, _, rfl, ?_⟩
    refine ite2 (fun c => absurd c (by rw [decide_eq_true rfl] <;> decide)) (fun _ => ?_)
    have hle : ∀ y ∈ ringL d x, y.length ≤ 1000 := fun y hy => by
      obtain ⟨j, _, rfl⟩ := mem_ringL.mp hy
      have := (turnN_set (j := j) hset).len
      omega
    -- found = ring_of(list(first))
    refine ⟨_, rfl, f, _, rfl, .inl (sq ef), fun p1 n1' => ?_⟩
    have s1 := same_new n1' (.lst (x.map V.int))
    refine ⟨p1, x, n, 0, d, rfl, upd_same, hset, by omega, hway, hx, by omega, fun H4 g gs s2 ng ngs hG => ?_⟩
    have hG : LL H4 g gs (ringL d x) := hG
    have sA := s1.trans s2
    have hDA : LL H4 D as (ringL d x) := ⟨sA _ _ hD.1, hD.2.same sA⟩
    have hgl := hG.2.len
    rw [ringL_len] at hgl
    have hdp := hx.pos
    refine ⟨_, rfl, _, rfl, g, D, gs, as, _, _, rfl, hG, hDA, hle, fun H5 s3 => ⟨_, rfl, ?_⟩⟩
    refine ite2 (fun c => absurd c (by rw [decide_eq_true rfl] <;> decide)) (fun _ => ?_)
    -- found[0].append(1)
    have hg0 : 0 < gs.length := by omega
    have g0 : gs[0]? = some (gs[0]'hg0) := List.getElem?_eq_getElem hg0
    obtain ⟨u, hu', eu⟩ := hG.2.get g0
    have hul := hle u (List.mem_of_getElem? hu')
    have eu3 := s3 _ _ eu
    have n0 : H' (gs[0]'hg0) = none := s1.free (ngs _ (List.getElem_mem hg0))
    refine ⟨_, rfl, g, _, _, .ref (gs[0]'hg0), rfl, rfl, sq (s3 _ _ hG.1), atI_nat (j := 0) (ref_get g0), .inl ⟨rfl, _, sq eu3⟩, _, _, _, rfl, rfl, eu3, by rw [nlen]; exact smallL (by omega), ?_⟩
    have ngx : g ≠ gs[0]'hg0 := ref_ne_int hG.1 eu hg0
    have eg6 : (upd H5 (gs[0]'hg0) (.lst (u.map V.int ++ [V.int 1]))) g = some (.lst (gs.map V.ref)) := by rw [upd_ne ngx]; exact s3 _ _ hG.1
    have ef6 : IL (upd H5 (gs[0]'hg0) (.lst (u.map V.int ++ [V.int 1]))) f x := by show upd _ _ _ _ = _; rw [upd_ne (ne_of_none ef n0)]; exact s3 _ _ (sA _ _ ef)
    have hD6 : LL (upd H5 (gs[0]'hg0) (.lst (u.map V.int ++ [V.int 1]))) D as (ringL d x) := ⟨by rw [upd_ne (ne_of_none hD.1 n0)]; exact s3 _ _ hDA.1, (hDA.2.same s3).upd (hD.2.ne n0)⟩
    generalize upd H5 (gs[0]'hg0) (.lst (u.map V.int ++ [V.int 1])) = H6 at *
    -- found.clear()
    have ng' : H' g = none := s1.free ng
    refine ⟨_, rfl, .inl ⟨rfl, _, sq eg6⟩, g, _, rfl, rfl, eg6, ?_⟩
    have ef7 : IL (upd H6 g (.lst [])) f x := by show upd _ _ _ _ = _; rw [upd_ne (ne_of_none ef ng')]; exact ef6
    have hD7 : LL (upd H6 g (.lst [])) D as (ringL d x) := ⟨by rw [upd_ne (ne_of_none hD.1 ng')]; exact hD6.1, hD6.2.upd (hD.2.ne ng')⟩
    generalize upd H6 g (.lst []) = H7 at *
    refine ⟨_, rfl, f, _, rfl, .inl (sq ef7), fun p2 n2' => ?_⟩
    have s4 := same_new n2' (.lst (x.map V.int))
    refine ⟨p2, x, n, 0, d, rfl, upd_same, hset, by omega, hway, hx, by omega, fun H8 g2 gs2 s5 ng2 ngs2 hG2 => ?_⟩
    have hG2 : LL H8 g2 gs2 (ringL d x) := hG2
    have sC := s4.trans s5
    refine ⟨_, rfl, g2, D, gs2, as, _, _, rfl, hG2, ⟨sC _ _ hD7.1, hD7.2.same sC⟩, hle, fun H9 s6 => ?_⟩
    rw [decide_eq_true rfl]
    exact q _

end

/-! ### the head: facts by names, the run -/
def dd_is_setting : He.DefD := ⟨("is_setting", none), "is_setting", "is_setting", defArgs s_is_setting, defBody s_is_setting, defScope s_is_setting, [], []⟩
def dd_must_be : He.DefD := ⟨("must_be", none), "must_be", "must_be", defArgs s_must_be, defBody s_must_be, defScope s_must_be, [], []⟩
def dd_turned_by : He.DefD := ⟨("turned_by", none), "turned_by", "turned_by", defArgs s_turned_by, defBody s_turned_by, defScope s_turned_by, [], []⟩
def dd_turned : He.DefD := ⟨("turned", none), "turned", "turned", defArgs s_turned, defBody s_turned, defScope s_turned, [], []⟩
def dd_stair_of : He.DefD := ⟨("stair_of", none), "stair_of", "stair_of", defArgs s_stair_of, defBody s_stair_of, defScope s_stair_of, [], []⟩
def dd_marks_by : He.DefD := ⟨("marks_by", none), "marks_by", "marks_by", defArgs s_marks_by, defBody s_marks_by, defScope s_marks_by, [], []⟩
def dd_marks_of : He.DefD := ⟨("marks_of", none), "marks_of", "marks_of", defArgs s_marks_of, defBody s_marks_of, defScope s_marks_of, [], []⟩
def dd_setting_by : He.DefD := ⟨("setting_by", none), "setting_by", "setting_by", defArgs s_setting_by, defBody s_setting_by, defScope s_setting_by, [], []⟩
def dd_setting_of : He.DefD := ⟨("setting_of", none), "setting_of", "setting_of", defArgs s_setting_of, defBody s_setting_of, defScope s_setting_of, [], []⟩
def dd_ring_by : He.DefD := ⟨("ring_by", none), "ring_by", "ring_by", defArgs s_ring_by, defBody s_ring_by, defScope s_ring_by, [], []⟩
def dd_ring_of : He.DefD := ⟨("ring_of", none), "ring_of", "ring_of", defArgs s_ring_of, defBody s_ring_of, defScope s_ring_of, [], []⟩
def dd_law_cell : He.DefD := ⟨("_law_cell", none), "_law_cell", "_law_cell", defArgs s_law_cell, defBody s_law_cell, defScope s_law_cell, [], []⟩
def dd_law_ints : He.DefD := ⟨("_law_ints", none), "_law_ints", "_law_ints", defArgs s_law_ints, defBody s_law_ints, defScope s_law_ints, [], []⟩
def dd_law_lists_like : He.DefD := ⟨("_law_lists_like", none), "_law_lists_like", "_law_lists_like", defArgs s_law_lists_like, defBody s_law_lists_like, defScope s_law_lists_like, [], []⟩
def dd_law_next : He.DefD := ⟨("_law_next", none), "_law_next", "_law_next", defArgs s_law_next, defBody s_law_next, defScope s_law_next, [], []⟩
def dd_law_fallen : He.DefD := ⟨("_law_fallen", none), "_law_fallen", "_law_fallen", defArgs s_law_fallen, defBody s_law_fallen, defScope s_law_fallen, [], []⟩
def dd_law_turned : He.DefD := ⟨("_law_turned", none), "_law_turned", "_law_turned", defArgs s_law_turned, defBody s_law_turned, defScope s_law_turned, [], []⟩
def dd_law_stair : He.DefD := ⟨("_law_stair", none), "_law_stair", "_law_stair", defArgs s_law_stair, defBody s_law_stair, defScope s_law_stair, [], []⟩
def dd_law_by_marks : He.DefD := ⟨("_law_by_marks", none), "_law_by_marks", "_law_by_marks", defArgs s_law_by_marks, defBody s_law_by_marks, defScope s_law_by_marks, [], []⟩
def dd_law_drawn_marks : He.DefD := ⟨("_law_drawn_marks", none), "_law_drawn_marks", "_law_drawn_marks", defArgs s_law_drawn_marks, defBody s_law_drawn_marks, defScope s_law_drawn_marks, [], []⟩
def dd_law_elder : He.DefD := ⟨("_law_elder", none), "_law_elder", "_law_elder", defArgs s_law_elder, defBody s_law_elder, defScope s_law_elder, [], []⟩
def dd_law_drawn_piles : He.DefD := ⟨("_law_drawn_piles", none), "_law_drawn_piles", "_law_drawn_piles", defArgs s_law_drawn_piles, defBody s_law_drawn_piles, defScope s_law_drawn_piles, [], []⟩
def dd_law_setting : He.DefD := ⟨("_law_setting", none), "_law_setting", "_law_setting", defArgs s_law_setting, defBody s_law_setting, defScope s_law_setting, [], []⟩
def dd_law : He.DefD := ⟨("law", none), "law", "law", defArgs s_law, defBody s_law, defScope s_law, [], []⟩
def fn : List He.DefD := [dd_is_setting, dd_must_be, dd_turned_by, dd_turned, dd_stair_of, dd_marks_by, dd_marks_of, dd_setting_by, dd_setting_of, dd_ring_by, dd_ring_of, dd_law_cell, dd_law_ints, dd_law_lists_like, dd_law_next, dd_law_fallen, dd_law_turned, dd_law_stair, dd_law_by_marks, dd_law_drawn_marks, dd_law_elder, dd_law_drawn_piles, dd_law_setting, dd_law]
def fa : List He.Fa := [.glo "is_setting", .glo "must_be", .glo "turned_by", .glo "turned", .glo "stair_of", .glo "marks_by", .glo "marks_of", .glo "setting_by", .glo "setting_of", .glo "ring_by", .glo "ring_of", .glo "_law_cell", .glo "_law_ints", .glo "_law_lists_like", .glo "_law_next", .glo "_law_fallen", .glo "_law_turned", .glo "_law_stair", .glo "_law_by_marks", .glo "_law_drawn_marks", .glo "_law_elder", .glo "_law_drawn_piles", .glo "_law_setting", .glo "law", .int "MOST" 100, .free "bool", .free "int", .free "isinstance", .free "len", .free "list", .free "min", .free "range", .free "reversed", .free "sorted", .free "sum", .free "zip"]
abbrev R : PySem.W.OpenRow := PySem.W.OpenLaw.row PySem.Challenge.rw_pilewheel_k08_whole_marks_go_round
abbrev hk : PySem.W.Hook := He.hookD 4 fa fn
def ob (s : PySem.W.SharedT) : He.AlD := He.obsDG 4 fa fn (HandSHeadRun.getT s)
theorem ob_eq (s : PySem.W.SharedT) : ob s = hk.obs s.abs := He.obsDG_eq (HandSHeadRun.getT_eq s)
def loose : List PySem.Str := ["PileError", "NoPiles", "NotRound", "NoMarks", "is_setting", "must_be", "turned_by", "turned", "stair_of", "marks_by", "marks_of", "setting_by", "setting_of", "ring_by", "ring_of", "_law_cell", "_law_ints", "_law_lists_like", "_law_next", "_law_fallen", "_law_turned", "_law_stair", "_law_by_marks", "_law_drawn_marks", "_law_elder", "_law_drawn_piles", "_law_setting", "MOST"]
theorem run (w : World) : HandSHeadRun.RunEq R (PySem.W.view R.prog [32]) hk ob 4000 loose w := by
  intro os
  kernel_rfl
theorem facts {P : Program} {w : World} {K : PySem.W.Frag} {h : Heap} {mg : Str → Option Value} {f : Addr} (X : K.In h) (G : h.Ns mainGlobals mg) (hfa : mg ("law" : Str) = some (.ref f)) (c : He.SaysD fa fn K) :
    ∃ fd : FuncData, (∀ (s : Shared) (v : Value), BindsTo s fd ⟨[v], []⟩ [("script", v)]) ∧ ∀ base : Heap, K.In base → base.Ns mainGlobals mg → FnOk P w K mg base CX0 4 f fd ["script"] (spLaw K) := by
  have T : Txt K mg := {
      d_is_setting := by
        obtain ⟨fd, F⟩ := c.def_ 0 (d := dd_is_setting) rfl
        exact ⟨fd, F, He.glo_ok X G (c.fact 0 (f := .glo "is_setting") rfl)⟩,
      d_must_be := by
        obtain ⟨fd, F⟩ := c.def_ 1 (d := dd_must_be) rfl
        exact ⟨fd, F, He.glo_ok X G (c.fact 1 (f := .glo "must_be") rfl)⟩,
      d_turned_by := by
        obtain ⟨fd, F⟩ := c.def_ 2 (d := dd_turned_by) rfl
        exact ⟨fd, F, He.glo_ok X G (c.fact 2 (f := .glo "turned_by") rfl)⟩,
      d_turned := by
        obtain ⟨fd, F⟩ := c.def_ 3 (d := dd_turned) rfl
        exact ⟨fd, F, He.glo_ok X G (c.fact 3 (f := .glo "turned") rfl)⟩,
      d_stair_of := by
        obtain ⟨fd, F⟩ := c.def_ 4 (d := dd_stair_of) rfl
        exact ⟨fd, F, He.glo_ok X G (c.fact 4 (f := .glo "stair_of") rfl)⟩,
      d_marks_by := by
        obtain ⟨fd, F⟩ := c.def_ 5 (d := dd_marks_by) rfl
        exact ⟨fd, F, He.glo_ok X G (c.fact 5 (f := .glo "marks_by") rfl)⟩,
      d_marks_of := by
        obtain ⟨fd, F⟩ := c.def_ 6 (d := dd_marks_of) rfl
        exact ⟨fd, F, He.glo_ok X G (c.fact 6 (f := .glo "marks_of") rfl)⟩,
      d_setting_by := by
        obtain ⟨fd, F⟩ := c.def_ 7 (d := dd_setting_by) rfl
        exact ⟨fd, F, He.glo_ok X G (c.fact 7 (f := .glo "setting_by") rfl)⟩,
      d_setting_of := by
        obtain ⟨fd, F⟩ := c.def_ 8 (d := dd_setting_of) rfl
        exact ⟨fd, F, He.glo_ok X G (c.fact 8 (f := .glo "setting_of") rfl)⟩,
      d_ring_by := by
        obtain ⟨fd, F⟩ := c.def_ 9 (d := dd_ring_by) rfl
        exact ⟨fd, F, He.glo_ok X G (c.fact 9 (f := .glo "ring_by") rfl)⟩,
      d_ring_of := by
        obtain ⟨fd, F⟩ := c.def_ 10 (d := dd_ring_of) rfl
        exact ⟨fd, F, He.glo_ok X G (c.fact 10 (f := .glo "ring_of") rfl)⟩,
      d_law_cell := by
        obtain ⟨fd, F⟩ := c.def_ 11 (d := dd_law_cell) rfl
        exact ⟨fd, F, He.glo_ok X G (c.fact 11 (f := .glo "_law_cell") rfl)⟩,
      d_law_ints := by
        obtain ⟨fd, F⟩ := c.def_ 12 (d := dd_law_ints) rfl
        exact ⟨fd, F, He.glo_ok X G (c.fact 12 (f := .glo "_law_ints") rfl)⟩,
      d_law_lists_like := by
        obtain ⟨fd, F⟩ := c.def_ 13 (d := dd_law_lists_like) rfl
        exact ⟨fd, F, He.glo_ok X G (c.fact 13 (f := .glo "_law_lists_like") rfl)⟩,
      d_law_next := by
        obtain ⟨fd, F⟩ := c.def_ 14 (d := dd_law_next) rfl
        exact ⟨fd, F, He.glo_ok X G (c.fact 14 (f := .glo "_law_next") rfl)⟩,
      d_law_fallen := by
        obtain ⟨fd, F⟩ := c.def_ 15 (d := dd_law_fallen) rfl
        exact ⟨fd, F, He.glo_ok X G (c.fact 15 (f := .glo "_law_fallen") rfl)⟩,
      d_law_turned := by
        obtain ⟨fd, F⟩ := c.def_ 16 (d := dd_law_turned) rfl
        exact ⟨fd, F, He.glo_ok X G (c.fact 16 (f := .glo "_law_turned") rfl)⟩,
      d_law_stair := by
        obtain ⟨fd, F⟩ := c.def_ 17 (d := dd_law_stair) rfl
        exact ⟨fd, F, He.glo_ok X G (c.fact 17 (f := .glo "_law_stair") rfl)⟩,
      d_law_by_marks := by
        obtain ⟨fd, F⟩ := c.def_ 18 (d := dd_law_by_marks) rfl
        exact ⟨fd, F, He.glo_ok X G (c.fact 18 (f := .glo "_law_by_marks") rfl)⟩,
      d_law_drawn_marks := by
        obtain ⟨fd, F⟩ := c.def_ 19 (d := dd_law_drawn_marks) rfl
        exact ⟨fd, F, He.glo_ok X G (c.fact 19 (f := .glo "_law_drawn_marks") rfl)⟩,
      d_law_elder := by
        obtain ⟨fd, F⟩ := c.def_ 20 (d := dd_law_elder) rfl
        exact ⟨fd, F, He.glo_ok X G (c.fact 20 (f := .glo "_law_elder") rfl)⟩,
      d_law_drawn_piles := by
        obtain ⟨fd, F⟩ := c.def_ 21 (d := dd_law_drawn_piles) rfl
        exact ⟨fd, F, He.glo_ok X G (c.fact 21 (f := .glo "_law_drawn_piles") rfl)⟩,
      d_law_setting := by
        obtain ⟨fd, F⟩ := c.def_ 22 (d := dd_law_setting) rfl
        exact ⟨fd, F, He.glo_ok X G (c.fact 22 (f := .glo "_law_setting") rfl)⟩,
      c_MOST := by
        obtain ⟨t, e⟩ := He.int_ok X G (c.fact 24 (f := .int "MOST" 100) rfl)
        exact ⟨_, e, t, rfl⟩,
      m_bool := He.free_ok X G (c.fact 25 (f := .free "bool") rfl),
      m_int := He.free_ok X G (c.fact 26 (f := .free "int") rfl),
      m_isinstance := He.free_ok X G (c.fact 27 (f := .free "isinstance") rfl),
      m_len := He.free_ok X G (c.fact 28 (f := .free "len") rfl),
      m_list := He.free_ok X G (c.fact 29 (f := .free "list") rfl),
      m_min := He.free_ok X G (c.fact 30 (f := .free "min") rfl),
      m_range := He.free_ok X G (c.fact 31 (f := .free "range") rfl),
      m_reversed := He.free_ok X G (c.fact 32 (f := .free "reversed") rfl),
      m_sorted := He.free_ok X G (c.fact 33 (f := .free "sorted") rfl),
      m_sum := He.free_ok X G (c.fact 34 (f := .free "sum") rfl),
      m_zip := He.free_ok X G (c.fact 35 (f := .free "zip") rfl) }
  obtain ⟨fd, F⟩ := c.def_ 23 (d := dd_law) rfl
  have e := hfa.symm.trans (He.glo_ok X G (c.fact 23 (f := .glo "law") rfl))
  cases e
  have b := FunD.bindsA (ps := ["script"]) F fun _ _ _ _ _ _ us hl => match us, hl with | [_], _ => rfl
  exact ⟨fd, fun s v => b s [v] rfl, fun base _ _ => ok_law_at T F⟩

end PW
open PySem PySem.W PySem.Calls PyProof.Rows
set_option maxRecDepth 100000 in
set_option maxHeartbeats 0 in
theorem PySem.Challenge.cw_pilewheel_k08_whole_marks_go_round_holds : PySem.Challenge.rw_pilewheel_k08_whole_marks_go_round.Holds := by
  w_on; o_law
  refine HandSHeadRun.head_any (r := OpenLaw.row PySem.Challenge.rw_pilewheel_k08_whole_marks_go_round) (q := view (OpenLaw.row PySem.Challenge.rw_pilewheel_k08_whole_marks_go_round).prog [32]) (H := PW.hk) (ob := PW.ob) (M := 4000) (loose := PW.loose) (d := HandSHeadRun.topDef (OpenLaw.row PySem.Challenge.rw_pilewheel_k08_whole_marks_go_round).prog 32) (kwd := []) PW.ob_eq
    (by kernel_rfl) (fun s => by kernel_rfl) PW.run (by kernel_rfl) (by kernel_rfl) (by kernel_rfl) (by rfl) (by first | assumption | decide +kernel) (by decide +kernel) ⟨rfl, rfl, rfl, rfl, rfl, by decide +kernel⟩ ?hw ?hc
  case hw => w_witness2
  case hc =>
    refine L2.walk_ofE (l := PySem.Challenge.rw_pilewheel_k08_whole_marks_go_round) (n := 63) (k := 4) (x := "script") (CX := L2.CX0) rfl (by decide) (by kernel_rfl) ⟨rfl, by decide, by decide⟩ ?F (fun _ _ _ _ z => z)
    intro w mg fa h Y G hmg0
    obtain ⟨K, KX, c⟩ := Y
    have hmg : mg ("law" : PySem.Str) = some (.ref fa) := by
      have e : (HandSHeadRun.topDef (OpenLaw.row PySem.Challenge.rw_pilewheel_k08_whole_marks_go_round).prog 32).name = ("law" : PySem.Str) := by kernel_rfl
      rw [← e]
      exact hmg0
    obtain ⟨fd, hb, hF⟩ := PW.facts (P := (PySem.Challenge.rw_pilewheel_k08_whole_marks_go_round).prog) (w := w) KX G hmg c
    exact ⟨K, fd, PW.spLaw K, KX, hb, fun H a ns hl _ hS => ⟨a, ns, rfl, hS, hl, fun _ => rfl⟩, hF⟩
