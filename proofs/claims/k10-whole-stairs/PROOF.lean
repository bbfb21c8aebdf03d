import PyProof.Rows.All
import Wide.All
import OpenK.AllK
import Wide.FinOn
import KE.KStateDown
import Lean
import HandS.ForMost
import HandS.Exc
import HandS.More
import HandS.WordsExc
import HandS.Defaults
import HandS.Wide
import HandS.SortInts
import HandS.Rev
import HandS.IsInst
import HandS.Deep
import HandS.Zip
import KE.SortData
import KE.DataMinMax
import KE.DataCmp
import HandS.Head0
import HandS.Head1
import HandS.Head2
import HandS.HeadEnd
import HandS.HeadHook1
import HandS.HeadHook2
import PySem.Challenge.RW_pilewheel_k10_whole_stairs
set_option Elab.async false
set_option linter.all false
set_option maxRecDepth 100000
set_option maxHeartbeats 4000000
namespace PW
open PySem PySem.Spec PyProof.Rows L2

/-! ### a def that may be called -/
structure Cal (P : Program) (w : World) (K : PySem.W.Frag) (mg : Str → Option Value) (base : Heap) (CX : CXT) (k : Nat) (x : Str) (ps : List Str) (sp : Sp) : Prop where
  ex : ∃ (f : Addr) (fd : FuncData), FnOk P w K mg base CX k f fd ps sp ∧ mg x = some (.ref f) ∧ PySem.W.keepIn K (.ref f) = true ∧ Binds K fd ps []
def DefAt (K : PySem.W.Frag) (mg : Str → Option Value) (x : Str) (st : Stmt) : Prop :=
  ∃ fd, FunD K x x (defArgs st) (defBody st) (defScope st) [] [] (He.ga K x) fd ∧ mg x = some (.ref (He.ga K x))
theorem pe_callF {X : Cx} {k : Nat} {x : Str} {ps : List Str} {sp : Sp} {e : Expr} {es : List Expr} {t : TA} {p pos : Pos} (C : Cal X.prog X.w X.K X.mg X.base CX0 k x ps sp) (hr : Room k X.A) (ha : PA X (e :: es) t) (hg : Gl X x := by rfl)
    (hdb : (x == ("__debug__" : Str)) = false := by decide) (he : starEach (e :: es) X.env = (false, eval e X.env) :: starEach es X.env := by rfl) (hpl : (backTo pos (starEach es X.env)).any (·.1) = false := by rfl) :
    PE X (.Call (.Name x p) (e :: es) [] pos) (tCall sp [] E0 t) := by
  obtain ⟨f, fd, F, hm, hk, hb⟩ := C.ex
  exact pe_call F hr hg hm hk hb .nil pass0 ha hdb he hpl
theorem pe_globX {X : Cx} {x : Str} {v : V} {pos : Pos} (h : ∃ u, X.mg x = some u ∧ RelV v u) (hg : Gl X x := by rfl) (hd : (x == ("__debug__" : Str)) = false := by decide) : PE X (.Name x pos) (tC v) := by
  obtain ⟨u, hm, r⟩ := h
  exact pe_glob hg hm r hd
theorem cal_mk {P : Program} {w : World} {K : PySem.W.Frag} {mg : Str → Option Value} {base : Heap} {x : Str} {st : Stmt} {N ps : List Str} {k : Nat} {sp : Sp} (D : DefAt K mg x st) (S : FnScope N ps (defScope st)) (len : ∀ vs H Q E, sp vs H Q E → vs.length = ps.length)
    (hb : ∀ (kV doc pm : Value) (an : Option Addr) (cdv ct : Value) (us : List Value), us.length = ps.length → bindArgs (PySem.W.fnOf x x (defArgs st) (defBody st) (defScope st) .none kV doc pm an cdv ct) ⟨us, []⟩ = pure (ps.zip us))
    (hbody : ∀ (f : Addr) (cdv : Value) (A : Around) (outer : List Env) (s : Shared) (H : Hp) (vs : List V) (Q : VK) (E : XK), Room k (A.deeper (envOfC x (defScope st) s.heap.objs.size f cdv)) → sp vs H Q E →
      ∃ t, PSs (cxOf CX0 P w K mg base N x (defScope st) f cdv A outer s H E).nox (defBody st) t ∧ t { nx := fun _ H' => Q .non H', rt := Q } (start N vs) H) : Cal P w K mg base CX0 (k + 1) x ps sp := by
  obtain ⟨fd, F, g⟩ := D
  refine ⟨⟨_, fd, F.ok S len (fun cdv A outer s H vs Q E hr h => ?_), g, F.kp, F.bindsN hb⟩⟩
  obtain ⟨t, h1, h2⟩ := hbody _ cdv A outer s H vs Q E hr h
  exact ⟨t, h1.nox, h2⟩
/-! ### heaps -/
theorem same_new {H : Hp} {p : Addr} (h : H p = none) (o : HO) : Same H (upd H p o) := fun b u q => by rw [upd_ne (ne_of_none q h)]; exact q
theorem same_mut {H H' : Hp} {p : Addr} (e : Same H H') (h : H p = none) (o : HO) : Same H (upd H' p o) := fun b u q => by
  rw [upd_ne (ne_of_none q h)]
  exact e b u q
theorem small {n : Nat} (h : n ≤ 100000) : n ≤ sizeLine := Nat.le_trans h (by decide)
theorem smallL {n : Nat} (h : n ≤ 100000) : n < sizeLine := Nat.lt_of_le_of_lt h (by decide)
/-- a list of ints that may be changed; the script -/
abbrev IL (H : Hp) (a : Addr) (ns : List Int) : Prop := H a = some (.lst (ns.map V.int))
abbrev SL (K : PySem.W.Frag) (H : Hp) (a : Addr) (ns : List Int) : Prop := SqL K H a (ns.map V.int)
/-- a new list of ints -/
abbrev NL (Q : VK) (H : Hp) (ns : List Int) : Prop := ∀ (H' : Hp) (p : Addr), Same H H' → H p = none → IL H' p ns → Q (.ref p) H'
theorem sq {K : PySem.W.Frag} {H : Hp} {a : Addr} {xs : List V} (h : H a = some (.lst xs)) : SqL K H a xs := .inl (.inl h)
theorem nlen {ns : List Int} : (ns.map V.int).length = ns.length := List.length_map _
theorem take_snoc {α : Type} {l : List α} {i : Nat} {x : α} (h : l[i]? = some x) : l.take (i + 1) = l.take i ++ [x] := by
  rw [List.take_add_one, h] <;> rfl
theorem cut_to (xs : List V) {j : Nat} (h : j ≤ xs.length) : cutV xs none (some (j : Int)) = xs.take j := by
  unfold cutV
  rw [HT.sIx_none, HT.sIx_nat, Nat.min_eq_left h] <;> rfl
theorem cut_from (xs : List V) {j : Nat} (h : j ≤ xs.length) : cutV xs (some (j : Int)) none = xs.drop j := by
  unfold cutV
  rw [HT.sIx_none, HT.sIx_nat, Nat.min_eq_left h]
  exact List.take_of_length_le (by rw [List.length_drop]; exact Nat.le_refl _)
theorem get_int {ns : List Int} {i : Nat} {x : V} (h : (ns.map V.int)[i]? = some x) : ∃ z, ns[i]? = some z ∧ x = .int z := by
  rw [List.getElem?_map] at h
  cases e : ns[i]? with
  | none => rw [e] at h; cases h
  | some z => rw [e] at h; exact ⟨z, rfl, (Option.some.inj h).symm⟩
theorem int_get {ns : List Int} {i : Nat} {z : Int} (h : ns[i]? = some z) : (ns.map V.int)[i]? = some (.int z) := by
  rw [List.getElem?_map, h] <;> rfl
/-- list(reversed(e)), e a list -/
def tListRev (K : PySem.W.Frag) (te : TE) : TE := fun σ H Q => te σ H fun v H1 => ∃ (a : Addr) (xs : List V), v = .ref a ∧ SqL K H1 a xs ∧ ∀ q, H1 q = none → Q (.ref q) (upd H1 q (.lst xs.reverse))
/-! ### rules within a comprehension: the written part by name -/
theorem ix_listK {X : Cx} (K : PySem.W.Frag) (h : X.K = K := by rfl) : IxR X (rIxL K) := by
  subst h
  exact ix_list
theorem call_len_seqK {X : Cx} (K : PySem.W.Frag) (h : X.K = K := by rfl) : CallR X (.builtin "len") (fun xs H Q => ∃ p ys, xs = [.ref p] ∧ (SqL K H p ys ∨ SqT K H p ys) ∧ Q (.int ys.length) H) := by
  subst h
  exact call_len_seq
theorem op_in_seqK {X : Cx} (K : PySem.W.Frag) (h : X.K = K := by rfl) : OpR X (compareOp .In) (rIn K false) := by
  subst h
  exact op_in_seq
theorem op_notIn_seqK {X : Cx} (K : PySem.W.Frag) (h : X.K = K := by rfl) : OpR X (compareOp .NotIn) (rIn K true) := by
  subst h
  exact op_notIn_seq
theorem sl_listK {X : Cx} (K : PySem.W.Frag) (h : X.K = K := by rfl) : SlR X (rSlL K) := by
  subst h
  exact sl_list
theorem hu65 {A : Around} {k : Nat} (r : Room k A) : A.units + 65 < cLine := by
  have := r.un
  omega
theorem call_list_ofK {X : Cx} (K : PySem.W.Frag) (h : X.K = K := by rfl) : CallR X (.type "list") (fun xs H Q => ∃ p ys, xs = [.ref p] ∧ (SqL K H p ys ∨ SqT K H p ys) ∧ ∀ l, H l = none → Q (.ref l) (upd H l (.lst ys))) := by
  subst h
  exact call_list_of

/-! ### list(reversed(e)) -/
section
variable {prog : Program} {w : World} {A : Around} {E : Value → Shared → Prop} {s : Shared} {R : Result → Shared → Prop}
theorem ext_rev (hh : A.handled = none) {it l : Addr} {items : Array Value} (hit : s.heap.IsRevIter it l ((items.size : Int) - 1)) (hl : s.heap.IsList l items) (hne : l ≠ it) (hn : items.size ≤ sizeLine) (S : Addr) (res : Value) (c0 : Nat)
    (hS : s.heap.get? S = some { cls := .type "list", data := .seq #[] c0 }) (hSi : S ≠ it) (hSl : S ≠ l)
    (hR : ∀ (h' : Heap) (tk : Nat) (acc' : Array Value) (c' : Nat), (∀ b o, b ≠ S → b ≠ it → s.heap.get? b = some o → h'.get? b = some o) → h'.get? S = some { cls := .type "list", dict := none, data := .seq acc' c', slots := #[] } →
      ItemsOf (fun i v => items[items.size - 1 - i]? = some v) acc' items.size → R (.ok (.ret res)) { s with heap := h', toks := tk }) :
    wpAny (model prog w) A.in1 (Builtin.List.listExtendWith (.ref S) (.ref it) res)
      (fun fin s' => match fin with | .done f => R (.ok f) s' | .again c' => c'.quiet = true ∧ codeAny (model prog w) A c' R s') (fun e s' => R (.error e) s') s := by
  have W := (Walks.listRev (prog := prog) (w := w) (A := A.in1) hh it l hne items).toS
  have hSf : S ∉ [it, l] := by simp only [List.mem_cons, List.not_mem_nil, or_false, not_or]; exact ⟨hSi, hSl⟩
  have hT : s.TypeIs (.ref it) "list_reverseiterator" := Heap.IsRevIter.typeIs hit
  have h1 : Builtin.List.listSameRef (.ref S) (.ref it) = false := by simp [Builtin.List.listSameRef, hSi]
  unfold Builtin.List.listExtendWith
  refine wpAny_bind (wpAny_typeOf hT ?_)
  rw [if_neg (by rw [h1]; decide)]
  refine wpAny_bind (wpAny_pyIter_revIter (s := s) hit ?_)
  refine wpAny_bind (wpAny_holding ?_)
  unfold Builtin.List.listLengthHint
  refine wpAny_bind (wpAny_specialOf hT RT.nolen_lri ?_)
  show wpAny _ A.in1 (specialOf (Value.ref it) (Str.ofString "__length_hint__") >>= _) _ _ _
  refine wpAny_bind (wpAny_specialOf hT RT.hint_lri ?_)
  generalize hid : ("list_reverseiterator.__length_hint__" : String) = id0
  wp_delta
  rw [show splitId id0 = some ("list_reverseiterator", "__length_hint__") from by subst hid; decide +kernel]
  subst hid
  refine wpAny_bind (wpAny_isInstance (b := true) hT (by rw [isSubtype_type]; kernel_rfl) ?_)
  refine wpAny_pure ?_
  rw [if_neg (by decide)]
  have e0 : ((items.size : Nat) : Int) - 1 - ((0 : Nat) : Int) = (items.size : Int) - 1 := by omega
  refine wpAny_pure ⟨plainId_quiet F.plain_extend_loop _, codeAny_extend_loopS W hn _ hSf _ items.size 0 _ _ _ rfl (Nat.zero_le _) ⟨Nat.zero_le _, by rw [e0]; exact hit, hl⟩ hS (ItemsOf.nil _) fun s' acc' c' hm hS' hacc => ?_⟩
  rw [Moved.eq_with hm]
  refine hR s'.heap s'.toks acc' c' (fun b o hb hb2 e => hm.heap b o (fun hmem => ?_) e) hS' hacc
  rcases List.mem_cons.mp hmem with e' | hmem
  · exact hb e'
  · exact hb2 (List.mem_singleton.mp hmem)
theorem init_rev (hh : A.handled = none) {it l : Addr} {items : Array Value} (hit : s.heap.IsRevIter it l ((items.size : Int) - 1)) (hl : s.heap.IsList l items) (hne : l ≠ it) (hn : items.size ≤ sizeLine) (S : Addr)
    (hS : s.heap.get? S = some { cls := .type "list", data := .seq #[] }) (hSi : S ≠ it) (hSl : S ≠ l)
    (hR : ∀ (h' : Heap) (tk : Nat) (acc' : Array Value) (c' : Nat), (∀ b o, b ≠ S → b ≠ it → s.heap.get? b = some o → h'.get? b = some o) → h'.get? S = some { cls := .type "list", dict := none, data := .seq acc' c', slots := #[] } →
      ItemsOf (fun i v => items[items.size - 1 - i]? = some v) acc' items.size → R (.ok (.ret .none)) { s with heap := h', toks := tk }) :
    wpAny (model prog w) A.in1 (Builtin.«list.__init__» ⟨[.ref S, .ref it], []⟩)
      (fun fin s' => match fin with | .done f => R (.ok f) s' | .again c' => c'.quiet = true ∧ codeAny (model prog w) A c' R s') (fun e s' => R (.error e) s') s := by
  show wpAny _ _ (do let old ← Builtin.List.listItems (.ref S); Builtin.List.listUpdate (.ref S) (fun _ => #[]); letGo old.toList.reverse; Builtin.List.listExtendWith (.ref S) (.ref it) .none) _ _ s
  refine wpAny_bind ?_
  unfold Builtin.List.listItems
  refine wpAny_bind (wpAny_seqItems hS rfl (wpAny_pure ?_))
  show wpAny _ _ (updateSeq S (fun _ => #[]) >>= fun _ => letGo (#[] : Array Value).toList.reverse >>= fun _ => Builtin.List.listExtendWith (.ref S) (.ref it) .none) _ _ s
  refine wpAny_bind (wpAny_updateSeq hS rfl ?_)
  have hS₂ := Heap.get?_update_self (Obj.mapSeq (fun _ => (#[] : Array Value))) hS rfl
  have oth : ∀ b o, b ≠ S → s.heap.get? b = some o → (s.heap.update S (Obj.mapSeq (fun _ => (#[] : Array Value)))).get? b = some o :=
    fun b o hb e => (Heap.get?_update_other _ _ (Ne.symm hb)).trans e
  refine wpAny_bind (wpAny_letGo ?_)
  refine ext_rev (s := { s with heap := s.heap.update S (Obj.mapSeq (fun _ => (#[] : Array Value))) }) hh (hit.at fun o e => oth it o (Ne.symm hSi) e) ?_ hne hn S .none _ hS₂ hSi hSl fun h' tk acc' c' hk hS' hacc => ?_
  · obtain ⟨o, e, q⟩ := hl
    exact ⟨o, oth l o (Ne.symm hSl) e, q⟩
  · exact hR h' tk acc' c' (fun b o hb hb2 e => hk b o hb hb2 (oth b o hb e)) hS' hacc
theorem call_list_rev {it l : Addr} {items : Array Value} {Q : Value → Shared → Prop} (hh : A.handled = none) (hit : s.heap.IsRevIter it l ((items.size : Int) - 1)) (hl : s.heap.IsList l items) (hne : l ≠ it) (hn : items.size ≤ sizeLine)
    (hQ : ∀ (h' : Heap) (tk : Nat) (acc' : Array Value) (c' : Nat), (∀ b o, b ≠ it → s.heap.get? b = some o → h'.get? b = some o) →
      h'.get? s.heap.objs.size = some { cls := .type "list", dict := none, data := .seq acc' c', slots := #[] } → ItemsOf (fun i v => items[items.size - 1 - i]? = some v) acc' items.size → Q (.ref s.heap.objs.size) { s with heap := h', toks := tk }) :
    wpAny (model prog w) A (call (.type "list") [.ref it]) Q E s := by
  obtain ⟨oi, hoi, _⟩ := id hit
  obtain ⟨ol, hol, _⟩ := id hl
  refine callType_codes (Q₁ := fun obj s₁ => obj = .ref s.heap.objs.size ∧ s₁ = { s with heap := s.heap.push { cls := .type "list", data := .seq #[] } }) F.called_list (F.typeCall_list_1 _) F.entry_list_init
    (code_list_new _ ⟨rfl, rfl⟩) fun obj s₁ h₁ => ?_
  obtain ⟨rfl, rfl⟩ := h₁
  have hS : (s.heap.push { cls := .type "list", data := .seq #[] }).get? s.heap.objs.size = some { cls := .type "list", data := .seq #[] } := Heap.get?_push_size _ rfl
  refine ⟨⟨_, hS, rfl⟩, F.args_list_init_2 _ _, init_rev (A := A.in1) (s := { s with heap := s.heap.push { cls := .type "list", data := .seq #[] } }) hh (hit.at fun o e => Heap.get?_push_of_some _ e) (hl.push _) hne hn _ hS (Nat.ne_of_gt (Heap.lt_size hoi)) (Nat.ne_of_gt (Heap.lt_size hol)) fun h' tk acc' c' hk hS' hacc => ?_⟩
  exact ⟨rfl, hQ h' tk acc' c' (fun b o hb e => hk b o (Nat.ne_of_lt (Heap.lt_size e)) hb (Heap.get?_push_of_some _ e)) hS' hacc⟩
end
theorem pe_listRev {X : Cx} {e : Expr} {te : TE} {p p2 pos pos2 : Pos} (hc : X.calm = true) (hg : Gl X "list") (hm : X.mg "list" = none) (hg2 : Gl X "reversed") (hm2 : X.mg "reversed" = none) (he : PE X e te)
    (hs : starEach [e] X.env = (false, eval e X.env) :: starEach [] X.env := by rfl)
    (hs2 : starEach [.Call (.Name "reversed" p2) [e] [] pos2] X.env = (false, eval (.Call (.Name "reversed" p2) [e] [] pos2) X.env) :: starEach [] X.env := by rfl) :
    PE X (.Call (.Name "list" p) [.Call (.Name "reversed" p2) [e] [] pos2] [] pos) (tListRev X.K te) := by
  refine ⟨fun pins s σ H Q I h => ?_⟩
  refine Call_ (ld_blt I hg hm PyProof.Rows.boot_list (PyProof.Rows.callWith_type1 (args_cons (Call_ (ld_blt I hg2 hm2 PyProof.Rows.boot_reversed (PyProof.Rows.callWith_type1 (args_cons (thn (he.run pins s σ H _ I h) fun u s1 ⟨v, H1, I1, r1, q1⟩ => args_nil ?_) hs) hs rfl))) hs2) hs2 rfl))
  obtain ⟨a, xs, ev, hq, q⟩ := q1
  subst ev
  obtain rfl : u = Value.ref a := r1
  obtain ⟨its, rv, p', hz⟩ := I1.list hq
  refine call_reversed_list p'.isList (args_nil ?_)
  have k0 : ∀ b o, s1.heap.get? b = some o → (s1.heap.push (revObj a ((its.toArray.size : Int) - 1))).get? b = some o := fun b o e => Heap.get?_push_of_some _ e
  have I2 : Inv X pins σ H1 { s1 with heap := s1.heap.push (revObj a ((its.toArray.size : Int) - 1)) } := I1.kept (t' := s1.toks) k0
  obtain ⟨f0, f1, f2, f3, f4, f5⟩ := I1.fpOk (H' := H1) (b := s1.heap.objs.size) (Nat.le_refl _) (I1.hok.fresh (Nat.le_refl _))
  have hl := p'.isList
  obtain ⟨ol, hol, _⟩ := id hl
  have hne : a ≠ s1.heap.objs.size := Nat.ne_of_lt (Heap.lt_size hol)
  have hn : its.toArray.size ≤ sizeLine := by rw [List.size_toArray, ← rv.length]; exact hz
  refine call_list_rev (s := { s1 with heap := s1.heap.push (revObj a ((its.toArray.size : Int) - 1)) }) (I1.ok.hd hc) ⟨_, Heap.get?_push_size _ rfl, rfl, rfl⟩ (hl.push _) hne hn fun h' tk acc c' hk hS hi => ?_
  have hit0 : H1 s1.heap.objs.size = none := I1.hok.fresh (Nat.le_refl _)
  have hS0 : H1 (s1.heap.push (revObj a ((its.toArray.size : Int) - 1))).objs.size = none := I2.hok.fresh (Nat.le_refl _)
  have hSit : s1.heap.objs.size ≠ (s1.heap.push (revObj a ((its.toArray.size : Int) - 1))).objs.size := by rw [Heap.size_push]; omega
  generalize hS2 : (s1.heap.push (revObj a ((its.toArray.size : Int) - 1))).objs.size = S at *
  have hn3 : ((s1.heap.push (revObj a ((its.toArray.size : Int) - 1))).push { cls := .type "list", data := .seq #[] }).get? S = some { cls := .type "list", data := .seq #[] } := by
    rw [← hS2]
    exact Heap.get?_push_size _ rfl
  have I3 : Inv X pins σ (upd H1 S (.lst [])) { s1 with heap := (s1.heap.push (revObj a ((its.toArray.size : Int) - 1))).push { cls := .type "list", data := .seq #[] } } :=
    I2.laid (t' := s1.toks) (fun b o e => Heap.get?_push_of_some _ e) (Nat.le_of_eq hS2) (show ObjOk X.prog X.w _ _ _ (.lst []) from ⟨Nat.zero_le _, [], 0, .nil, hn3⟩)
  have hn4 := Heap.get?_update_self (fun _ => ({ cls := .type "list", dict := none, data := .seq acc c', slots := #[] } : Obj)) hn3 rfl
  have I4 : Inv X pins σ (upd (upd H1 S (.lst [])) S (.lst xs.reverse)) { s1 with heap := ((s1.heap.push (revObj a ((its.toArray.size : Int) - 1))).push { cls := .type "list", data := .seq #[] }).update S (fun _ => ({ cls := .type "list", dict := none, data := .seq acc c', slots := #[] } : Obj)) } :=
    I3.write (t' := s1.toks) (x := S) (e := S) (by rw [upd_same]; trivial) (.inl rfl) (fun b u hb e => (Heap.get?_update_other _ _ (Ne.symm hb)).trans e) ⟨_, hn4⟩
      (show ObjOk X.prog X.w _ _ _ (.lst xs.reverse) from ⟨by rw [List.length_reverse]; exact hz, acc.toList, c', RT.vals_rev rv hi, by rw [Array.toArray_toList]; exact hn4⟩)
  rw [upd_upd] at I4
  have hnS : (upd H1 S (.lst xs.reverse)) s1.heap.objs.size = none := by rw [upd_ne hSit]; exact hit0
  obtain ⟨f0, f1, f2, f3, f4, f5⟩ := I1.fpOk (H' := upd H1 S (.lst xs.reverse)) (b := s1.heap.objs.size) (Nat.le_refl _) hnS
  have I5 : Inv X pins σ (upd H1 S (.lst xs.reverse)) { s1 with heap := h', toks := tk } := Inv.turned (s := { s1 with heap := ((s1.heap.push (revObj a ((its.toArray.size : Int) - 1))).push { cls := .type "list", data := .seq #[] }).update S (fun _ => ({ cls := .type "list", dict := none, data := .seq acc c', slots := #[] } : Obj)) }) (t' := tk) (it := s1.heap.objs.size) I4 (fun b o hb e => by
    by_cases hbS : b = S
    · subst hbS
      rw [hn4] at e
      rw [hS]
      exact e
    · have e2 := (Heap.get?_update_other _ _ (Ne.symm hbS)).symm.trans e
      rcases Heap.get?_push_cases e2 with ⟨z, _⟩ | z
      · exact absurd (z.trans hS2) hbS
      · exact hk b o hb z) f0 f1 f3 f4 f5
  exact ⟨.ref S, _, I5, rfl, q _ hS0⟩

/-! ### lists that fall -/
def insD (x : Int) : List Int → List Int
  | [] => [x]
  | y :: r => if y > x then y :: insD x r else x :: y :: r
def fall : List Int → List Int
  | [] => []
  | x :: r => insD x (fall r)
abbrev Falls (l : List Int) : Prop := l.Pairwise (· ≥ ·)
theorem insD_perm (x : Int) : ∀ l : List Int, (insD x l).Perm (x :: l)
  | [] => .refl _
  | y :: r => by
    unfold insD
    split
    · exact ((insD_perm x r).cons y).trans (.swap x y r)
    · exact .refl _
theorem insD_mem {x z : Int} {l : List Int} : z ∈ insD x l ↔ z = x ∨ z ∈ l := by
  rw [(insD_perm x l).mem_iff, List.mem_cons]
theorem insD_falls {x : Int} : ∀ {l : List Int}, Falls l → Falls (insD x l)
  | [], _ => List.pairwise_singleton _ _
  | y :: r, h => by
    obtain ⟨h1, h2⟩ := List.pairwise_cons.mp h
    unfold insD
    split
    · rename_i c
      refine List.pairwise_cons.mpr ⟨fun z hz => ?_, insD_falls h2⟩
      rcases insD_mem.mp hz with rfl | hz
      · exact Int.le_of_lt c
      · exact h1 z hz
    · rename_i c
      refine List.pairwise_cons.mpr ⟨fun z hz => ?_, h⟩
      rcases List.mem_cons.mp hz with rfl | hz
      · show z ≤ x
        omega
      · have := h1 z hz
        show z ≤ x
        omega
theorem fall_perm : ∀ l : List Int, (fall l).Perm l
  | [] => .refl _
  | x :: r => (insD_perm x _).trans ((fall_perm r).cons x)
theorem fall_falls : ∀ l : List Int, Falls (fall l)
  | [] => List.Pairwise.nil
  | _ :: r => insD_falls (fall_falls r)
theorem falls_unique : ∀ {l m : List Int}, l.Perm m → Falls l → Falls m → l = m
  | [], m, h, _, _ => (List.nil_perm.mp h).symm
  | x :: l, [], h, _, _ => absurd h.length_eq (by simp)
  | x :: l, y :: m, h, hl, hm => by
    obtain ⟨a1, a2⟩ := List.pairwise_cons.mp hl
    obtain ⟨b1, b2⟩ := List.pairwise_cons.mp hm
    have e : x = y := by
      have hx : x ∈ y :: m := h.mem_iff.mp (List.mem_cons_self ..)
      have hy : y ∈ x :: l := h.mem_iff.mpr (List.mem_cons_self ..)
      rcases List.mem_cons.mp hx with e | hx
      · exact e
      · rcases List.mem_cons.mp hy with e | hy
        · exact e.symm
        · have p := b1 x hx
          have q := a1 y hy
          omega
    subst e
    rw [falls_unique ((List.perm_cons x).mp h) a2 b2]
theorem fall_eq {l m : List Int} (h : m.Perm l) (hm : Falls m) : m = fall l := falls_unique (h.trans (fall_perm l).symm) hm (fall_falls l)
theorem fall_self {l : List Int} (h : Falls l) : fall l = l := (fall_eq (.refl _) h).symm
theorem fall_length (l : List Int) : (fall l).length = l.length := (fall_perm l).length_eq
theorem perm_sum : ∀ {l m : List Int}, l.Perm m → l.sum = m.sum := fun h => by
  induction h with
  | nil => rfl
  | cons x _ ih => rw [List.sum_cons, List.sum_cons, ih]
  | swap x y l => simp only [List.sum_cons]; omega
  | trans _ _ a b => exact a.trans b
theorem fall_sum (l : List Int) : (fall l).sum = l.sum := perm_sum (fall_perm l)
/-! ### settings -/
structure Good (ns : List Int) : Prop where
  pos : ∀ x ∈ ns, 1 ≤ x
  falls : Falls ns
  ne : ns ≠ []
theorem len_le_sum : ∀ {ns : List Int}, (∀ x ∈ ns, 1 ≤ x) → (ns.length : Int) ≤ ns.sum
  | [], _ => Int.le_refl 0
  | x :: r, h => by
    have h1 := h x (List.mem_cons_self ..)
    have ih := len_le_sum (ns := r) fun z hz => h z (List.mem_cons_of_mem _ hz)
    rw [List.sum_cons, List.length_cons]
    omega
theorem mem_le_sum : ∀ {ns : List Int}, (∀ x ∈ ns, 0 ≤ x) → ∀ x ∈ ns, x ≤ ns.sum
  | y :: r, h, x, hx => by
    have h1 := h y (List.mem_cons_self ..)
    have h2 : ∀ z ∈ r, 0 ≤ z := fun z hz => h z (List.mem_cons_of_mem _ hz)
    have h3 : 0 ≤ r.sum := by
      clear hx
      induction r with
      | nil => exact Int.le_refl 0
      | cons a t ih =>
        rw [List.sum_cons]
        have q1 := h2 a (List.mem_cons_self ..)
        have q2 := ih (fun z hz => h z (by rcases List.mem_cons.mp hz with e | e <;> simp [e])) fun z hz => h2 z (List.mem_cons_of_mem _ hz)
        omega
    rw [List.sum_cons]
    rcases List.mem_cons.mp hx with rfl | hx
    · omega
    · have q := mem_le_sum h2 x hx
      omega
/-- a setting of n coins -/
def IsSet (n : Int) (ns : List Int) : Prop := Good ns ∧ ns.sum = n
theorem IsSet.len {n : Int} {ns : List Int} (h : IsSet n ns) : (ns.length : Int) ≤ n := by
  have := len_le_sum h.1.pos
  rw [h.2] at this
  exact this
theorem IsSet.le {n : Int} {ns : List Int} (h : IsSet n ns) {x : Int} (hx : x ∈ ns) : x ≤ n := by
  have := mem_le_sum (fun z hz => by have := h.1.pos z hz; omega) x hx
  rw [h.2] at this
  exact this
theorem IsSet.ne {n : Int} {ns : List Int} (h : IsSet n ns) : 0 < ns.length := List.length_pos_iff.mpr h.1.ne
/-! ### a turn -/
def down1 (ns : List Int) : List Int := (ns.filter fun z => decide (z > 1)).map (· - 1)
def turn (ns : List Int) : List Int := insD ns.length (down1 ns)
theorem down1_cons (x : Int) (r : List Int) : down1 (x :: r) = if x > 1 then (x - 1) :: down1 r else down1 r := by
  unfold down1
  rw [List.filter_cons]
  by_cases c : x > 1
  · rw [if_pos c, if_pos (decide_eq_true c)] <;> rfl
  · rw [if_neg c, if_neg (by simp only [decide_eq_true_eq]; exact c)]
theorem mem_down1 {z : Int} {ns : List Int} : z ∈ down1 ns ↔ z + 1 ∈ ns ∧ 1 ≤ z := by
  unfold down1
  simp only [List.mem_map, List.mem_filter, decide_eq_true_eq]
  constructor
  · rintro ⟨y, ⟨h1, h2⟩, rfl⟩
    exact ⟨by rw [show y - 1 + 1 = y by omega]; exact h1, by omega⟩
  · rintro ⟨h1, h2⟩
    exact ⟨z + 1, ⟨h1, by omega⟩, by omega⟩
theorem down1_falls {ns : List Int} (h : Falls ns) : Falls (down1 ns) := by
  induction ns with
  | nil => exact List.Pairwise.nil
  | cons x r ih =>
    obtain ⟨h1, h2⟩ := List.pairwise_cons.mp h
    rw [down1_cons]
    split
    · refine List.pairwise_cons.mpr ⟨fun z hz => ?_, ih h2⟩
      have := h1 _ (mem_down1.mp hz).1
      show z ≤ x - 1
      omega
    · exact ih h2
theorem down1_sum {ns : List Int} (h : ∀ x ∈ ns, 1 ≤ x) : (down1 ns).sum + ns.length = ns.sum := by
  induction ns with
  | nil => rfl
  | cons x r ih =>
    have h1 := h x (List.mem_cons_self ..)
    have ih := ih fun z hz => h z (List.mem_cons_of_mem _ hz)
    rw [down1_cons]
    split
    · rw [List.sum_cons, List.sum_cons, List.length_cons]; omega
    · rw [List.sum_cons, List.length_cons]; omega
theorem down1_length (ns : List Int) : (down1 ns).length ≤ ns.length := by
  unfold down1
  rw [List.length_map]
  exact List.length_filter_le _ _
theorem turn_perm (ns : List Int) : (turn ns).Perm (down1 ns ++ [(ns.length : Int)]) := (insD_perm _ _).trans (List.perm_append_comm (l₁ := [(ns.length : Int)]) (l₂ := down1 ns))
theorem turn_eq {ns : List Int} (h : Falls ns) : turn ns = fall (down1 ns ++ [(ns.length : Int)]) := fall_eq (turn_perm ns) (insD_falls (down1_falls h))
theorem turn_set {n : Int} {ns : List Int} (h : IsSet n ns) : IsSet n (turn ns) := by
  refine ⟨⟨fun x hx => ?_, insD_falls (down1_falls h.1.falls), fun e => ?_⟩, ?_⟩
  · rcases insD_mem.mp hx with rfl | hx
    · have := h.ne
      omega
    · exact (mem_down1.mp hx).2
  · have : (turn ns).length = (down1 ns).length + 1 := (insD_perm _ _).length_eq
    rw [e] at this
    simp at this
  · rw [show (turn ns).sum = _ from perm_sum (insD_perm _ _), List.sum_cons]
    have := down1_sum h.1.pos
    rw [h.2] at this
    omega
theorem turn_length (ns : List Int) : (turn ns).length ≤ ns.length + 1 := by
  have : (turn ns).length = (down1 ns).length + 1 := (insD_perm _ _).length_eq
  have := down1_length ns
  omega

/-! ### the stair -/
def stairUp : Nat → Nat → Nat → Nat
  | 0, s, _ => s
  | f + 1, s, n => if s * (s + 1) < 2 * n then stairUp f (s + 1) n else s
def stair (n : Nat) : Nat := stairUp n 1 n
theorem sq_mono {a b : Nat} (h : a ≤ b) : a * (a + 1) ≤ b * (b + 1) := Nat.mul_le_mul h (Nat.succ_le_succ h)
theorem le_sq (a : Nat) : a ≤ a * (a + 1) := Nat.le_mul_of_pos_right a (Nat.succ_pos a)
theorem stairUp_spec : ∀ (f s n : Nat), n ≤ f + s → 1 ≤ s → (s - 1) * s < 2 * n → 1 ≤ stairUp f s n ∧ (stairUp f s n - 1) * stairUp f s n < 2 * n ∧ 2 * n ≤ stairUp f s n * (stairUp f s n + 1)
  | 0, s, n, h, h1, h2 => by
    refine ⟨h1, h2, ?_⟩
    show 2 * n ≤ s * (s + 1)
    have : s * 2 ≤ s * (s + 1) := Nat.mul_le_mul_left s (by omega)
    omega
  | f + 1, s, n, h, h1, h2 => by
    unfold stairUp
    split
    · rename_i c
      exact stairUp_spec f (s + 1) n (by omega) (by omega) (by rw [Nat.add_sub_cancel]; exact c)
    · rename_i c
      exact ⟨h1, h2, by omega⟩
theorem stair_spec {n : Nat} (h : 1 ≤ n) : 1 ≤ stair n ∧ (stair n - 1) * stair n < 2 * n ∧ 2 * n ≤ stair n * (stair n + 1) := stairUp_spec n 1 n (by omega) (Nat.le_refl _) (by omega)
theorem stair_uniq {n s : Nat} (h : 1 ≤ n) (h1 : 1 ≤ s) (h2 : (s - 1) * s < 2 * n) (h3 : 2 * n ≤ s * (s + 1)) : s = stair n := by
  obtain ⟨a, b, c⟩ := stair_spec h
  generalize stair n = t at *
  rcases Nat.lt_trichotomy s t with l | e | l
  · have := sq_mono (show s ≤ t - 1 by omega)
    rw [show t - 1 + 1 = t by omega] at this
    omega
  · exact e
  · have := sq_mono (show t ≤ s - 1 by omega)
    rw [show s - 1 + 1 = s by omega] at this
    omega
theorem stair_le {n : Nat} (h : 1 ≤ n) {b : Nat} (hb : 2 * n ≤ b * (b + 1)) (h1 : 1 ≤ b) : stair n ≤ b := by
  obtain ⟨_, b1, _⟩ := stair_spec h
  rcases Nat.lt_or_ge b (stair n) with l | l
  · have := sq_mono (show b ≤ stair n - 1 by omega)
    rw [show stair n - 1 + 1 = stair n by omega] at this
    omega
  · exact l
/-- the ones of n coins' marks -/
def restOf (n : Nat) : Nat := n - stair n * (stair n - 1) / 2
theorem half_sq (s : Nat) : 2 * (s * (s + 1) / 2) = s * (s + 1) := by
  have h : s * (s + 1) % 2 = 0 := by
    rcases Nat.mod_two_eq_zero_or_one s with e | e
    · rw [Nat.mul_mod, e, Nat.zero_mul]
    · rw [Nat.mul_mod, Nat.add_mod, e]
  omega
theorem half_sq' {s : Nat} (h : 1 ≤ s) : 2 * (s * (s - 1) / 2) = s * (s - 1) := by
  have := half_sq (s - 1)
  rw [show s - 1 + 1 = s by omega, Nat.mul_comm (s - 1) s] at this
  exact this
theorem rest_spec {n : Nat} (h : 1 ≤ n) : 1 ≤ restOf n ∧ restOf n ≤ stair n ∧ n = stair n * (stair n - 1) / 2 + restOf n := by
  obtain ⟨a, b, c⟩ := stair_spec h
  have e := half_sq' a
  unfold restOf
  have d : stair n * (stair n + 1) = stair n * (stair n - 1) + 2 * stair n := by
    rw [← Nat.mul_comm (stair n) 2, ← Nat.mul_add]
    congr 1
    omega
  rw [Nat.mul_comm] at b
  omega
/-! ### marks -/
def mk : List Int → List Int
  | [] => []
  | m :: r => ((r.length : Int) + m) :: mk r
def ofMarks (ms : List Int) : List Int := (mk ms).filter fun z => decide (z > 0)
theorem mk_length : ∀ ms : List Int, (mk ms).length = ms.length
  | [] => rfl
  | _ :: r => congrArg (· + 1) (mk_length r)
theorem mk_get : ∀ {ms : List Int} {i : Nat} {m : Int}, ms[i]? = some m → (mk ms)[i]? = some ((ms.length : Int) - 1 - i + m)
  | [], _, _, h => by simp at h
  | a :: r, 0, m, h => by
    have e : a = m := Option.some.inj h
    subst e
    show some ((r.length : Int) + a) = some (((r.length + 1 : Nat) : Int) - 1 - ((0 : Nat) : Int) + a)
    congr 1
    omega
  | a :: r, i + 1, m, h => by
    have ih := mk_get (ms := r) (i := i) (m := m) h
    show (mk r)[i]? = some (((r.length + 1 : Nat) : Int) - 1 - ((i + 1 : Nat) : Int) + m)
    rw [ih]
    congr 1
    omega
/-- noughts and ones -/
def Bits (ms : List Int) : Prop := ∀ m ∈ ms, m = 0 ∨ m = 1
theorem mk_bits : ∀ {ms : List Int}, Bits ms → (∀ z ∈ mk ms, 0 ≤ z ∧ z ≤ ms.length) ∧ Falls (mk ms)
  | [], _ => ⟨fun _ h => (by cases h), List.Pairwise.nil⟩
  | m :: r, h => by
    have hm := h m (List.mem_cons_self ..)
    obtain ⟨h1, h2⟩ := mk_bits (ms := r) fun z hz => h z (List.mem_cons_of_mem _ hz)
    refine ⟨fun z hz => ?_, List.pairwise_cons.mpr ⟨fun z hz => ?_, h2⟩⟩
    · rw [List.length_cons]
      rcases List.mem_cons.mp hz with rfl | hz
      · omega
      · have := h1 z hz
        omega
    · have := h1 z hz
      show z ≤ (r.length : Int) + m
      omega
theorem mk_sum : ∀ ms : List Int, (mk ms).sum = ((ms.length * (ms.length - 1) / 2 : Nat) : Int) + ms.sum
  | [] => rfl
  | m :: r => by
    have ih := mk_sum r
    show ((r.length : Int) + m) + (mk r).sum = _
    rw [ih, List.sum_cons, List.length_cons]
    have e1 := half_sq r.length
    have e2 : 2 * (r.length * (r.length - 1) / 2) = r.length * (r.length - 1) := by
      rcases Nat.eq_zero_or_pos r.length with e | e
      · rw [e]
      · exact half_sq' e
    rw [Nat.add_sub_cancel, Nat.mul_comm (r.length + 1) r.length]
    have e3 : r.length * (r.length + 1) = r.length * (r.length - 1) + 2 * r.length := by
      rcases Nat.eq_zero_or_pos r.length with e | e
      · rw [e]
      · rw [← Nat.mul_comm r.length 2, ← Nat.mul_add]
        congr 1
        omega
    omega
theorem filter_pos_sum : ∀ {l : List Int}, (∀ z ∈ l, 0 ≤ z) → (l.filter fun z => decide (z > 0)).sum = l.sum
  | [], _ => rfl
  | x :: r, h => by
    have h1 := h x (List.mem_cons_self ..)
    have ih := filter_pos_sum (l := r) fun z hz => h z (List.mem_cons_of_mem _ hz)
    rw [List.filter_cons]
    by_cases c : x > 0
    · rw [if_pos (decide_eq_true c), List.sum_cons, List.sum_cons, ih]
    · rw [if_neg (by simp only [decide_eq_true_eq]; exact c), List.sum_cons, ih]
      omega
theorem ofMarks_set {n : Nat} (hn : 1 ≤ n) {ms : List Int} (hb : Bits ms) (hl : ms.length = stair n) (hs : ms.sum = (restOf n : Int)) : IsSet n (ofMarks ms) := by
  obtain ⟨h1, h2⟩ := mk_bits hb
  have hsum : (ofMarks ms).sum = (n : Int) := by
    unfold ofMarks
    rw [filter_pos_sum fun z hz => (h1 z hz).1, mk_sum, hs, hl]
    have := (rest_spec hn).2.2
    omega
  refine ⟨⟨fun x hx => ?_, ?_, fun e => ?_⟩, hsum⟩
  · have := of_decide_eq_true (List.mem_filter.mp hx).2
    omega
  · exact List.Pairwise.filter _ h2
  · rw [e] at hsum
    have : (0 : Int) = n := hsum
    omega
/-! ### elders: what the pile at a place was not yet -/
def elderAt (ns : List Int) (j : Nat) (p : Int) : List Int := ((ns.take j ++ ns.drop (j + 1)).map (· + 1)) ++ List.replicate (p - ((ns.length : Int) - 1)).toNat 1
theorem sum_replicate (n : Nat) : (List.replicate n (1 : Int)).sum = n := by
  induction n with
  | zero => rfl
  | succ n ih => rw [List.replicate_succ, List.sum_cons, ih]; omega
theorem sum_map_add1 : ∀ l : List Int, (l.map (· + 1)).sum = l.sum + l.length
  | [] => rfl
  | x :: r => by
    have ih := sum_map_add1 r
    rw [List.map_cons, List.sum_cons, List.sum_cons, ih, List.length_cons]
    omega
theorem take_drop_sum : ∀ {ns : List Int} {j : Nat} {p : Int}, ns[j]? = some p → (ns.take j ++ ns.drop (j + 1)).sum + p = ns.sum ∧ (ns.take j ++ ns.drop (j + 1)).length + 1 = ns.length
  | [], _, _, h => by simp at h
  | a :: r, 0, p, h => by
    have e : a = p := Option.some.inj h
    subst e
    refine ⟨?_, rfl⟩
    show r.sum + a = (a :: r).sum
    rw [List.sum_cons]
    omega
  | a :: r, j + 1, p, h => by
    obtain ⟨h1, h2⟩ := take_drop_sum (ns := r) (j := j) (p := p) h
    refine ⟨?_, ?_⟩
    · show (a :: (r.take j ++ r.drop (j + 1))).sum + p = (a :: r).sum
      rw [List.sum_cons, List.sum_cons]
      omega
    · show (r.take j ++ r.drop (j + 1)).length + 1 + 1 = r.length + 1
      omega
theorem take_drop_sub (ns : List Int) (j : Nat) : (ns.take j ++ ns.drop (j + 1)).Sublist ns := by
  have h := (List.Sublist.refl (ns.take j)).append (List.drop_sublist 1 (ns.drop j))
  rw [List.take_append_drop, List.drop_drop] at h
  exact h
theorem elder_set {n : Int} {ns : List Int} (h : IsSet n ns) {j : Nat} {p : Int} (hp : ns[j]? = some p) (hb : p ≥ (ns.length : Int) - 1) : IsSet n (elderAt ns j p) := by
  obtain ⟨s1, s2⟩ := take_drop_sum hp
  have sub := take_drop_sub ns j
  have h1 := h.1.pos p (List.mem_of_getElem? hp)
  refine ⟨⟨fun x hx => ?_, ?_, fun e => ?_⟩, ?_⟩
  · rcases List.mem_append.mp hx with hx | hx
    · obtain ⟨y, hy, rfl⟩ := List.mem_map.mp hx
      have := h.1.pos y (sub.subset hy)
      omega
    · rw [List.eq_of_mem_replicate hx]
      exact Int.le_refl 1
  · refine List.pairwise_append.mpr ⟨?_, ?_, fun a ha b hb => ?_⟩
    · rw [List.pairwise_map]
      exact (h.1.falls.sublist sub).imp fun h => by omega
    · exact List.pairwise_replicate.mpr (.inr (Int.le_refl 1))
    · obtain ⟨y, hy, rfl⟩ := List.mem_map.mp ha
      have := h.1.pos y (sub.subset hy)
      rw [List.eq_of_mem_replicate hb]
      omega
  · have := congrArg List.length e
    unfold elderAt at this
    rw [List.length_append, List.length_map, List.length_replicate, List.length_nil] at this
    omega
  · unfold elderAt
    rw [List.sum_append, sum_map_add1, sum_replicate]
    have := h.2
    omega

/-! ### marks of a setting, rings -/
def marksAt (S : Nat) (ns : List Int) : List Int := (List.range S).map fun k : Nat => ns.getD k 0 - ((S : Int) - 1 - (k : Int))
def isBits (ms : List Int) : Bool := ms.all fun m => decide (0 ≤ m ∧ m ≤ 1)
def marksBy (ns : List Int) : List Int :=
  if stair ns.sum.toNat < ns.length then [] else if isBits (marksAt (stair ns.sum.toNat) ns) = true then marksAt (stair ns.sum.toNat) ns else []
theorem isBits_iff {ms : List Int} : isBits ms = true ↔ Bits ms := by
  unfold isBits Bits
  rw [List.all_eq_true]
  constructor
  · intro h m hm
    have := of_decide_eq_true (h m hm)
    omega
  · intro h m hm
    have := h m hm
    exact decide_eq_true (by omega)
theorem filter_pos_getD : ∀ {l : List Int} (k : Nat), (∀ z ∈ l, 0 ≤ z) → Falls l → (l.filter fun z => decide (z > 0)).getD k 0 = l.getD k 0
  | [], _, _, _ => rfl
  | x :: r, k, h, hf => by
    obtain ⟨f1, f2⟩ := List.pairwise_cons.mp hf
    have hr : ∀ z ∈ r, 0 ≤ z := fun z hz => h z (List.mem_cons_of_mem _ hz)
    rw [List.filter_cons]
    by_cases c : x > 0
    · rw [if_pos (decide_eq_true c)]
      cases k with
      | zero => rfl
      | succ k => exact filter_pos_getD k hr f2
    · rw [if_neg (by simp only [decide_eq_true_eq]; exact c)]
      have hx := h x (List.mem_cons_self ..)
      have hz : ∀ z ∈ r, z = 0 := fun z hz => by
        have a := f1 z hz
        have b := hr z hz
        omega
      have e : r.filter (fun z => decide (z > 0)) = [] := List.filter_eq_nil_iff.mpr fun z hz' => by
        rw [hz z hz']
        decide
      rw [e]
      cases k with
      | zero =>
        show (0 : Int) = x
        omega
      | succ k =>
        show (0 : Int) = r.getD k 0
        rw [List.getD_eq_getElem?_getD]
        cases hk : r[k]? with
        | none => rfl
        | some z =>
          rw [hz z (List.mem_of_getElem? hk)]
          rfl
theorem bits_sum_range : ∀ {ms : List Int}, Bits ms → 0 ≤ ms.sum ∧ ms.sum ≤ ms.length
  | [], _ => ⟨Int.le_refl _, Int.le_refl _⟩
  | m :: r, h => by
    have hm := h m (List.mem_cons_self ..)
    have ih := bits_sum_range (ms := r) fun z hz => h z (List.mem_cons_of_mem _ hz)
    rw [List.sum_cons, List.length_cons]
    omega
theorem ofMarks_sum {ms : List Int} (h : Bits ms) : (ofMarks ms).sum = ((ms.length * (ms.length - 1) / 2 : Nat) : Int) + ms.sum := by
  unfold ofMarks
  rw [filter_pos_sum fun z hz => ((mk_bits h).1 z hz).1, mk_sum]
theorem ofMarks_stair {ms : List Int} (h : Bits ms) (h1 : 1 ≤ ms.sum) : stair (ofMarks ms).sum.toNat = ms.length := by
  obtain ⟨b0, b1⟩ := bits_sum_range h
  have hl : 1 ≤ ms.length := by omega
  have e := ofMarks_sum h
  have e2 := half_sq' hl
  have e3 : ms.length * (ms.length + 1) = ms.length * (ms.length - 1) + 2 * ms.length := by
    rw [← Nat.mul_comm ms.length 2, ← Nat.mul_add]
    congr 1
    omega
  refine (stair_uniq (by omega) hl ?_ ?_).symm
  · rw [Nat.mul_comm]
    omega
  · omega
theorem ofMarks_len {ms : List Int} : (ofMarks ms).length ≤ ms.length := by
  have := List.length_filter_le (fun z => decide (z > 0)) (mk ms)
  rw [mk_length] at this
  exact this
theorem ofMarks_isSet {ms : List Int} (h : Bits ms) (h1 : 1 ≤ ms.sum) : IsSet (ofMarks ms).sum (ofMarks ms) := by
  obtain ⟨k1, k2⟩ := mk_bits h
  refine ⟨⟨fun x hx => ?_, List.Pairwise.filter _ k2, fun e => ?_⟩, rfl⟩
  · have := of_decide_eq_true (List.mem_filter.mp hx).2
    omega
  · have := ofMarks_sum h
    rw [e] at this
    have : (0 : Int) = ((ms.length * (ms.length - 1) / 2 : Nat) : Int) + ms.sum := this
    omega
theorem marksBy_of {ms : List Int} (h : Bits ms) (h1 : 1 ≤ ms.sum) : marksBy (ofMarks ms) = ms := by
  have hs := ofMarks_stair h h1
  have hl := ofMarks_len (ms := ms)
  have e : marksAt ms.length (ofMarks ms) = ms := by
    apply List.ext_getElem?
    intro k
    unfold marksAt
    by_cases hk : k < ms.length
    · have gk : ms[k]? = some ms[k] := List.getElem?_eq_getElem hk
      obtain ⟨k1, k2⟩ := mk_bits h
      have hd : (ofMarks ms).getD k 0 = (ms.length : Int) - 1 - k + ms[k] := by
        unfold ofMarks
        rw [filter_pos_getD k (fun z hz => (k1 z hz).1) k2, List.getD_eq_getElem?_getD, mk_get gk] <;> rfl
      rw [List.getElem?_map, List.getElem?_range hk, gk]
      show some ((ofMarks ms).getD k 0 - ((ms.length : Int) - 1 - (k : Int))) = some ms[k]
      rw [hd]
      congr 1
      omega
    · rw [List.getElem?_eq_none (by rw [List.length_map, List.length_range]; omega), List.getElem?_eq_none (by omega)]
  unfold marksBy
  rw [hs, if_neg (by omega), e, if_pos (isBits_iff.mpr h)]
/-! ### a turn is a turning of the marks -/
theorem mk_snoc : ∀ (l : List Int) (z : Int), mk (l ++ [z]) = (mk l).map (· + 1) ++ [z]
  | [], z => by
    show [((0 : Nat) : Int) + z] = [z]
    congr 1
    omega
  | m :: r, z => by
    show (((r ++ [z]).length : Int) + m) :: mk (r ++ [z]) = ((r.length : Int) + m + 1) :: ((mk r).map (· + 1) ++ [z])
    rw [mk_snoc r z, List.length_append, List.length_singleton]
    congr 1
    omega
theorem turn_marks {l : List Int} {z : Int} (h : Bits (l ++ [z])) (h1 : 1 ≤ (l ++ [z]).sum) : turn (ofMarks (l ++ [z])) = ofMarks (z :: l) := by
  have hl : Bits l := fun m hm => h m (List.mem_append_left _ hm)
  have hz : z = 0 ∨ z = 1 := h z (List.mem_append_right _ (List.mem_singleton.mpr rfl))
  obtain ⟨k1, k2⟩ := mk_bits hl
  have hf : ((mk l).map (· + 1)).filter (fun x => decide (x > 0)) = (mk l).map (· + 1) := List.filter_eq_self.mpr fun x hx => by
    obtain ⟨y, hy, rfl⟩ := List.mem_map.mp hx
    have := (k1 y hy).1
    exact decide_eq_true (by omega)
  have e1 : ofMarks (l ++ [z]) = (mk l).map (· + 1) ++ [z].filter (fun x => decide (x > 0)) := by
    unfold ofMarks
    rw [mk_snoc, List.filter_append, hf]
  have hd : down1 (ofMarks (l ++ [z])) = ofMarks l := by
    rw [e1]
    unfold down1 ofMarks
    rw [List.filter_append, List.map_append, List.filter_map, List.map_map]
    have a : (mk l).filter ((fun z => decide (z > 1)) ∘ fun x => x + 1) = (mk l).filter fun x => decide (x > 0) := by
      congr 1
      funext x
      show decide (x + 1 > 1) = decide (x > 0)
      by_cases c : x > 0
      · rw [decide_eq_true c, decide_eq_true (by omega)]
      · rw [decide_eq_false c, decide_eq_false (by omega)]
    have b : ([z].filter (fun x => decide (x > 0))).filter (fun z => decide (z > 1)) = [] := by
      rcases hz with rfl | rfl <;> rfl
    rw [a, b, List.map_nil, List.append_nil]
    have c : (fun x : Int => x - 1) ∘ (fun x => x + 1) = id := by
      funext x
      show x + 1 - 1 = x
      omega
    rw [c, List.map_id]
  have hlen : ((ofMarks (l ++ [z])).length : Int) = (l.length : Int) + z := by
    rw [e1, List.length_append, List.length_map, mk_length]
    rcases hz with rfl | rfl
    · show ((l.length + 0 : Nat) : Int) = (l.length : Int) + 0
      omega
    · show ((l.length + 1 : Nat) : Int) = (l.length : Int) + 1
      omega
  have hpos : (l.length : Int) + z > 0 := by
    obtain ⟨b0, b1⟩ := bits_sum_range hl
    rw [List.sum_append, List.sum_cons, List.sum_nil] at h1
    omega
  unfold turn
  rw [hd, hlen]
  have e2 : ofMarks (z :: l) = ((l.length : Int) + z) :: ofMarks l := by
    show (((l.length : Int) + z) :: mk l).filter _ = _
    rw [List.filter_cons, if_pos (decide_eq_true hpos)] <;> rfl
  rw [e2]
  cases hol : ofMarks l with
  | nil => rfl
  | cons y r =>
    unfold insD
    rw [if_neg]
    have hy : y ∈ mk l := (List.mem_filter.mp (show y ∈ ofMarks l by rw [hol]; exact List.mem_cons_self ..)).1
    have := (k1 y hy).2
    omega
/-! ### turns one behind another -/
def turnN : Nat → List Int → List Int
  | 0, x => x
  | n + 1, x => turnN n (turn x)
theorem turnN_succ : ∀ (n : Nat) (x : List Int), turnN (n + 1) x = turn (turnN n x)
  | 0, _ => rfl
  | n + 1, x => turnN_succ n (turn x)
theorem turnN_add : ∀ (a b : Nat) (x : List Int), turnN (a + b) x = turnN a (turnN b x)
  | a, 0, x => rfl
  | a, b + 1, x => turnN_add a b (turn x)
theorem turnN_set {n : Int} : ∀ {j : Nat} {x : List Int}, IsSet n x → IsSet n (turnN j x)
  | 0, _, h => h
  | j + 1, _, h => turnN_set (j := j) (turn_set h)
/-- a ring of d settings from x on -/
structure Ring (x : List Int) (d : Nat) : Prop where
  pos : 1 ≤ d
  back : turnN d x = x
  first : ∀ j, 0 < j → j < d → turnN j x ≠ x
theorem Ring.inj {x : List Int} {d : Nat} (h : Ring x d) {i j : Nat} (hij : i < j) (hj : j < d) : turnN i x ≠ turnN j x := fun e => by
  have h1 : turnN (d - i) (turnN i x) = x := by
    rw [← turnN_add, show d - i + i = d by omega, h.back]
  have h2 : turnN (d - i) (turnN j x) = turnN (j - i) x := by
    rw [← turnN_add, show d - i + j = (j - i) + d by omega, turnN_add, h.back]
  rw [e, h2] at h1
  exact h.first (j - i) (by omega) (by omega) h1
theorem least_of {p : Nat → Prop} : ∀ n : Nat, p n → ∃ d, d ≤ n ∧ p d ∧ ∀ j, j < d → ¬ p j := fun n => by
  induction n using Nat.strongRecOn with
  | ind n ih =>
    intro hn
    by_cases h : ∃ j, j < n ∧ p j
    · obtain ⟨j, hj, hp⟩ := h
      obtain ⟨d, h1, h2, h3⟩ := ih j hj hp
      exact ⟨d, by omega, h2, h3⟩
    · exact ⟨n, Nat.le_refl _, hn, fun j hj hp => h ⟨j, hj, hp⟩⟩
theorem ring_ex {x : List Int} {S : Nat} (h1 : 1 ≤ S) (h : turnN S x = x) : ∃ d, d ≤ S ∧ Ring x d := by
  obtain ⟨d, a, ⟨b1, b2⟩, c⟩ := least_of (p := fun d => 1 ≤ d ∧ turnN d x = x) S ⟨h1, h⟩
  exact ⟨d, a, b1, b2, fun j h0 hj e => c j hj ⟨h0, e⟩⟩
/-- the settings of a ring -/
def ringL (d : Nat) (x : List Int) : List (List Int) := (List.range d).map fun j => turnN j x
theorem ringL_succ (d : Nat) (x : List Int) : ringL (d + 1) x = ringL d x ++ [turnN d x] := by
  unfold ringL
  rw [List.range_succ, List.map_append] <;> rfl
theorem ringL_len (d : Nat) (x : List Int) : (ringL d x).length = d := by
  unfold ringL
  rw [List.length_map, List.length_range]
theorem mem_ringL {d : Nat} {x y : List Int} : y ∈ ringL d x ↔ ∃ j, j < d ∧ turnN j x = y := by
  unfold ringL
  simp only [List.mem_map, List.mem_range]
/-! ### marks turned round -/
def rot : List Int → List Int := fun ms => ms.getLast?.toList ++ ms.dropLast
theorem rot_snoc (l : List Int) (z : Int) : rot (l ++ [z]) = z :: l := by
  unfold rot
  rw [List.getLast?_concat, List.dropLast_concat] <;> rfl
def rotN : Nat → List Int → List Int
  | 0, x => x
  | n + 1, x => rot (rotN n x)
theorem rotN_split : ∀ (b a : List Int), ∀ j, j = b.length → rotN j (a ++ b) = b ++ a := by
  intro b a j
  induction j generalizing a b with
  | zero =>
    intro h
    have : b = [] := List.eq_nil_of_length_eq_zero h.symm
    subst this
    show a ++ [] = [] ++ a
    rw [List.append_nil, List.nil_append]
  | succ j ih =>
    intro h
    match b, h with
    | y :: r, h =>
      have e1 : a ++ y :: r = (a ++ [y]) ++ r := by rw [List.append_assoc] <;> rfl
      show rot (rotN j (a ++ y :: r)) = y :: r ++ a
      rw [e1, ih r (a ++ [y]) (by simpa using h), ← List.append_assoc, rot_snoc] <;> rfl
theorem rotN_len (ms : List Int) : rotN ms.length ms = ms := by
  have := rotN_split ms [] ms.length rfl
  rw [List.nil_append, List.append_nil] at this
  exact this
theorem snoc_of : ∀ {ms : List Int}, ms ≠ [] → ∃ l z, ms = l ++ [z] := fun {ms} h => ⟨ms.dropLast, ms.getLast h, (List.dropLast_concat_getLast h).symm⟩
theorem rot_facts {ms : List Int} (h : Bits ms) (h1 : 1 ≤ ms.sum) : Bits (rot ms) ∧ (rot ms).sum = ms.sum ∧ (rot ms).length = ms.length ∧ turn (ofMarks ms) = ofMarks (rot ms) := by
  obtain ⟨l, z, rfl⟩ := snoc_of (ms := ms) (fun e => by rw [e] at h1; exact absurd h1 (by decide))
  rw [rot_snoc]
  refine ⟨fun m hm => ?_, ?_, ?_, turn_marks h h1⟩
  · rcases List.mem_cons.mp hm with rfl | hm
    · exact h m (List.mem_append_right _ (List.mem_singleton.mpr rfl))
    · exact h m (List.mem_append_left _ hm)
  · rw [List.sum_cons, List.sum_append, List.sum_cons, List.sum_nil]
    omega
  · rw [List.length_cons, List.length_append, List.length_singleton]
theorem rotN_facts {ms : List Int} (h : Bits ms) (h1 : 1 ≤ ms.sum) : ∀ j, Bits (rotN j ms) ∧ (rotN j ms).sum = ms.sum ∧ (rotN j ms).length = ms.length ∧ turnN j (ofMarks ms) = ofMarks (rotN j ms)
  | 0 => ⟨h, rfl, rfl, rfl⟩
  | j + 1 => by
    obtain ⟨a, b, c, d⟩ := rotN_facts h h1 j
    obtain ⟨a', b', c', d'⟩ := rot_facts a (by omega)
    refine ⟨a', by show (rot (rotN j ms)).sum = _; omega, by show (rot (rotN j ms)).length = _; omega, ?_⟩
    rw [turnN_succ, d, d'] <;> rfl
theorem ofMarks_ring {ms : List Int} (h : Bits ms) (h1 : 1 ≤ ms.sum) : ∃ d, d ≤ ms.length ∧ Ring (ofMarks ms) d := by
  have hl : 1 ≤ ms.length := by
    have := bits_sum_range h
    omega
  refine ring_ex hl ?_
  rw [(rotN_facts h h1 ms.length).2.2.2, rotN_len]

/-! ### the solitaire comes round: N t j piles of at least j coins after t turns -/
def cn (p : Nat → Bool) : Nat → Nat
  | 0 => 0
  | m + 1 => cn p m + if p m = true then 1 else 0
theorem cn_mono {p q : Nat → Bool} : ∀ {m : Nat}, (∀ i, i < m → p i = true → q i = true) → cn p m ≤ cn q m
  | 0, _ => Nat.le_refl _
  | m + 1, h => by
    have ih := cn_mono (p := p) (q := q) (m := m) fun i hi => h i (by omega)
    show cn p m + _ ≤ cn q m + _
    have := h m (by omega)
    by_cases c : p m = true
    · rw [if_pos c, if_pos (this c)]
      omega
    · rw [if_neg c]
      omega
theorem cn_more (p : Nat → Bool) {m m' : Nat} (h : m ≤ m') : cn p m ≤ cn p m' := by
  induction m' with
  | zero =>
    obtain rfl : m = 0 := by omega
    exact Nat.le_refl _
  | succ m' ih =>
    rcases Nat.lt_or_ge m (m' + 1) with l | l
    · have := ih (by omega)
      show _ ≤ cn p m' + _
      omega
    · obtain rfl : m = m' + 1 := by omega
      exact Nat.le_refl _
theorem cn_stop {p : Nat → Bool} {m : Nat} : ∀ {m' : Nat}, m ≤ m' → (∀ i, m ≤ i → i < m' → p i = false) → cn p m' = cn p m
  | 0, h, _ => by
    obtain rfl : m = 0 := by omega
    rfl
  | m' + 1, h, hp => by
    rcases Nat.lt_or_ge m (m' + 1) with l | l
    · have ih := cn_stop (p := p) (m := m) (m' := m') (by omega) fun i h1 h2 => hp i h1 (by omega)
      show cn p m' + _ = _
      rw [hp m' (by omega) (by omega), ih]
      rfl
    · obtain rfl : m = m' + 1 := by omega
      rfl
theorem cn_sub {p q : Nat → Bool} {m m' : Nat} (h : ∀ i, i < m → p i = true → i < m' ∧ q i = true) : cn p m ≤ cn q m' := by
  rcases Nat.le_total m m' with l | l
  · exact Nat.le_trans (cn_mono fun i hi c => (h i hi c).2) (cn_more q l)
  · rw [cn_stop (p := p) l fun i h1 h2 => by
      cases c : p i with
      | false => rfl
      | true =>
        have := (h i h2 c).1
        omega]
    exact cn_mono fun i hi c => (h i (by omega) c).2
theorem cn_shift (p : Nat → Bool) : ∀ m, cn p (m + 1) = (if p 0 = true then 1 else 0) + cn (fun i => p (i + 1)) m
  | 0 => Nat.zero_add _
  | m + 1 => by
    have ih := cn_shift p m
    show cn p (m + 1) + (if p (m + 1) = true then 1 else 0) = (if p 0 = true then 1 else 0) + (cn (fun i => p (i + 1)) m + (if p (m + 1) = true then 1 else 0))
    rw [ih, Nat.add_assoc]
theorem cn_le (p : Nat → Bool) : ∀ m, cn p m ≤ m
  | 0 => Nat.le_refl _
  | m + 1 => by
    have := cn_le p m
    show cn p m + _ ≤ _
    split <;> omega
theorem cn_all {p : Nat → Bool} : ∀ {m : Nat}, (∀ i, i < m → p i = true) → cn p m = m
  | 0, _ => rfl
  | m + 1, h => by
    show cn p m + _ = _
    rw [cn_all fun i hi => h i (by omega), if_pos (h m (by omega))]
/-- the sum of f 1 .. f m -/
def su (f : Nat → Nat) : Nat → Nat
  | 0 => 0
  | m + 1 => su f m + f (m + 1)
theorem su_mono {f g : Nat → Nat} : ∀ {m : Nat}, (∀ j, 1 ≤ j → j ≤ m → f j ≤ g j) → su f m ≤ su g m
  | 0, _ => Nat.le_refl _
  | m + 1, h => by
    have ih := su_mono (f := f) (g := g) (m := m) fun j h1 h2 => h j h1 (by omega)
    have := h (m + 1) (by omega) (by omega)
    show su f m + _ ≤ su g m + _
    omega
/-- numbers of piles, turn by turn -/
structure Sys (N : Nat → Nat → Nat) (n : Nat) : Prop where
  step : ∀ t j, 1 ≤ j → N (t + 1) j = N t (j + 1) + if j ≤ N t 1 then 1 else 0
  anti : ∀ t j, N t (j + 1) ≤ N t j
  sum : ∀ t m, su (N t) m ≤ n
  all : ∀ t m, n ≤ m → su (N t) m = n
/-- the pile that the s-th turn makes -/
def nx (N : Nat → Nat → Nat) (s : Nat) : Nat := N (s - 1) 1
section
variable {N : Nat → Nat → Nat} {n : Nat}
theorem Sys.form (S : Sys N n) : ∀ (t j : Nat), 1 ≤ j → N t j = N 0 (j + t) + cn (fun i => decide (j + i ≤ nx N (t - i))) t
  | 0, j, _ => rfl
  | t + 1, j, hj => by
    have ih := S.form t (j + 1) (by omega)
    rw [S.step t j hj, ih, cn_shift]
    have e1 : (fun i => decide (j + 1 + i ≤ nx N (t - i))) = fun i => decide (j + (i + 1) ≤ nx N (t + 1 - (i + 1))) := by
      funext i
      rw [show t + 1 - (i + 1) = t - i by omega, show j + 1 + i = j + (i + 1) by omega]
    have e2 : (if j ≤ N t 1 then 1 else 0) = if decide (j + 0 ≤ nx N (t + 1 - 0)) = true then 1 else 0 := by
      show _ = if decide (j ≤ N t 1) = true then 1 else 0
      by_cases c : j ≤ N t 1
      · rw [if_pos c, if_pos (decide_eq_true c)]
      · rw [if_neg c, if_neg (fun h => c (of_decide_eq_true h))]
    rw [e1, e2, show j + 1 + t = j + (t + 1) by omega]
    omega
theorem Sys.le_n (S : Sys N n) (t j : Nat) (hj : 1 ≤ j) : N t j ≤ n := by
  have h1 := S.sum t j
  obtain ⟨m, rfl⟩ : ∃ m, j = m + 1 := ⟨j - 1, by omega⟩
  have h2 : su (N t) (m + 1) = su (N t) m + N t (m + 1) := rfl
  omega
theorem anti_le (S : Sys N n) (t : Nat) {i j : Nat} (h : i ≤ j) : N t j ≤ N t i := by
  induction j with
  | zero =>
    obtain rfl : i = 0 := by omega
    exact Nat.le_refl _
  | succ j ih =>
    rcases Nat.lt_or_ge i (j + 1) with l | l
    · exact Nat.le_trans (S.anti t j) (ih (by omega))
    · obtain rfl : i = j + 1 := by omega
      exact Nat.le_refl _
theorem su_ge {f : Nat → Nat} : ∀ {m : Nat}, (∀ j, 1 ≤ j → j ≤ m → 1 ≤ f j) → m ≤ su f m
  | 0, _ => Nat.le_refl _
  | m + 1, h => by
    have ih := su_ge (f := f) (m := m) fun j h1 h2 => h j h1 (by omega)
    have := h (m + 1) (by omega) (by omega)
    show _ ≤ su f m + f (m + 1)
    omega
theorem Sys.none (S : Sys N n) (t : Nat) {j : Nat} (h : n < j) : N t j = 0 := by
  rcases Nat.eq_zero_or_pos (N t j) with e | e
  · exact e
  · have h1 := su_ge (f := N t) (m := j) fun i h1 h2 => Nat.le_trans e (anti_le S t h2)
    have h2 := S.sum t j
    omega
/-- slowly up -/
theorem Sys.up1 (S : Sys N n) {c : Nat} (h : 1 ≤ c) : nx N (c + 1) ≤ nx N c + 1 := by
  obtain ⟨t, rfl⟩ : ∃ t, c = t + 1 := ⟨c - 1, by omega⟩
  show N (t + 1) 1 ≤ N t 1 + 1
  rw [S.step t 1 (Nat.le_refl _)]
  have := S.anti t 1
  split <;> omega
theorem Sys.ups (S : Sys N n) : ∀ (i c : Nat), i < c → nx N c ≤ nx N (c - i) + i
  | 0, c, _ => Nat.le_refl _
  | i + 1, c, h => by
    have ih := S.ups i c (by omega)
    have := S.up1 (c := c - (i + 1)) (by omega)
    rw [show c - (i + 1) + 1 = c - i by omega] at this
    omega
/-- the step: OLEINIK -/
theorem Sys.lap (S : Sys N n) {c d : Nat} (hc : n < c) (hd : 1 ≤ d) (hcd : d + 1 < c) (h : ∀ z, z + 1 < c → c ≤ z + nx N z → d < z ∧ nx N z ≤ nx N (z - d) + 1) : nx N c ≤ nx N (c - (d + 1)) + 1 := by
  have f1 := S.form (c - 1) 1 (Nat.le_refl _)
  have f2 := S.form (c - (d + 1) - 1) 1 (Nat.le_refl _)
  have e0 : N 0 (1 + (c - 1)) = 0 := S.none 0 (by omega)
  rw [e0] at f1
  have g1 : nx N c = cn (fun i => decide (1 + i ≤ nx N (c - 1 - i))) (c - 1) := by
    show N (c - 1) 1 = _
    omega
  have g2 : cn (fun i => decide (1 + i ≤ nx N (c - (d + 1) - 1 - i))) (c - (d + 1) - 1) ≤ nx N (c - (d + 1)) := by
    show _ ≤ N (c - (d + 1) - 1) 1
    omega
  obtain ⟨m, em⟩ : ∃ m, c - 1 = m + 1 := ⟨c - 2, by omega⟩
  rw [em, cn_shift] at g1
  have key : cn (fun i => decide (1 + (i + 1) ≤ nx N (m + 1 - (i + 1)))) m ≤ cn (fun i => decide (1 + i ≤ nx N (c - (d + 1) - 1 - i))) (c - (d + 1) - 1) := by
    refine cn_sub fun i hi hp => ?_
    have hp := of_decide_eq_true hp
    have := h (m - i) (by omega) (by rw [show m + 1 - (i + 1) = m - i by omega] at hp; omega)
    rw [show m + 1 - (i + 1) = m - i by omega] at hp
    refine ⟨by omega, decide_eq_true ?_⟩
    rw [show c - (d + 1) - 1 - i = m - i - d by omega]
    omega
  have : (if decide (1 + 0 ≤ nx N (m + 1 - 0)) = true then 1 else 0) ≤ 1 := by split <;> omega
  omega
/-- no pile of twenty -/
theorem Sys.small (S : Sys N n) (hn : n ≤ 105) {c : Nat} (hc : 10 ≤ c) : nx N c ≤ 19 := by
  rcases Nat.lt_or_ge 19 (nx N c) with l | l
  · exfalso
    have h1 := S.sum c 20
    have h2 : su (fun j => cn (fun i => decide (j + i ≤ 20 - i)) 10) 20 ≤ su (N c) 20 := su_mono fun j j1 _ => by
      rw [S.form c j j1]
      refine Nat.le_trans ?_ (Nat.le_add_left _ _)
      refine cn_sub fun i hi hp => ⟨by omega, decide_eq_true ?_⟩
      have hp := of_decide_eq_true hp
      have := S.ups i c (by omega)
      omega
    have h3 : su (fun j => cn (fun i => decide (j + i ≤ 20 - i)) 10) 20 = 110 := by decide +kernel
    omega
  · exact l
end

section
variable {N : Nat → Nat → Nat} {n : Nat}
theorem Sys.laps (S : Sys N n) (hn : n ≤ 105) : ∀ d c, 1 ≤ d → n + 11 + 19 * (d - 1) ≤ c → nx N c ≤ nx N (c - d) + 1
  | 0, _, h, _ => by omega
  | 1, c, _, hc => by
    have := S.up1 (c := c - 1) (by omega)
    rw [show c - 1 + 1 = c by omega] at this
    exact this
  | d + 2, c, _, hc => by
    refine S.lap (d := d + 1) (by omega) (by omega) (by omega) fun z hz hl => ?_
    have h10 : 10 ≤ z := by
      have := S.le_n (z - 1) 1 (Nat.le_refl _)
      have : nx N z ≤ n := this
      omega
    have := S.small hn h10
    exact ⟨by omega, S.laps hn (d + 1) z (by omega) (by omega)⟩
theorem tri_su : ∀ k : Fin 15, 2 * su (fun j => k.1 + 1 - j) k.1 = k.1 * (k.1 + 1) := by decide +kernel
theorem su_stop {f : Nat → Nat} {m : Nat} : ∀ {m' : Nat}, m ≤ m' → (∀ j, m < j → f j = 0) → su f m' = su f m
  | 0, h, _ => by
    obtain rfl : m = 0 := by omega
    rfl
  | m' + 1, h, hf => by
    rcases Nat.lt_or_ge m (m' + 1) with l | l
    · show su f m' + f (m' + 1) = _
      rw [hf (m' + 1) (by omega), su_stop (m' := m') (by omega) hf, Nat.add_zero]
    · obtain rfl : m = m' + 1 := by omega
      rfl
/-- not above k -/
theorem Sys.top (S : Sys N n) (hn : n ≤ 105) {k c : Nat} (hk : 1 ≤ k) (hk2 : k ≤ 14) (h2 : 2 * n ≤ k * (k + 1)) (hc : n + 11 + 19 * (k - 1) ≤ c) : nx N c ≤ k := by
  rcases Nat.lt_or_ge k (nx N c) with l | l
  · exfalso
    have lo : ∀ i, 1 ≤ i → i ≤ k → k ≤ nx N (c - i) := fun i h1 h2 => by
      have := S.laps hn i c h1 (by omega)
      omega
    have a1 : su (fun j => k + 1 - j) k ≤ su (N c) k := su_mono fun j j1 j2 => by
      rw [S.form c j j1]
      refine Nat.le_trans ?_ (Nat.le_add_left _ _)
      have e : cn (fun _ => true) (k + 1 - j) = k + 1 - j := cn_all fun _ _ => rfl
      rw [← e]
      refine cn_sub fun i hi _ => ⟨by omega, decide_eq_true ?_⟩
      rcases Nat.eq_zero_or_pos i with e0 | e0
      · subst e0
        rw [Nat.sub_zero]
        omega
      · have := lo i e0 (by omega)
        omega
    have a2 : 1 ≤ N c (k + 1) := by
      rw [S.form c (k + 1) (by omega)]
      refine Nat.le_trans ?_ (Nat.le_add_left _ _)
      have e : cn (fun _ => true) 1 = 1 := rfl
      rw [← e]
      refine cn_sub fun i hi _ => ⟨by omega, decide_eq_true ?_⟩
      obtain rfl : i = 0 := by omega
      rw [Nat.sub_zero]
      omega
    have a3 := tri_su ⟨k, by omega⟩
    have a4 := S.sum c (k + 1)
    have a5 : su (N c) (k + 1) = su (N c) k + N c (k + 1) := rfl
    have a6 : 2 * su (fun j => k + 1 - j) k = k * (k + 1) := a3
    omega
  · exact l
/-- old piles are gone -/
theorem Sys.gone (S : Sys N n) (hn : n ≤ 105) {t V i j : Nat} (hV : n + 10 ≤ V) (ht : V + 19 ≤ t + 1) (hj : 1 ≤ j) (h : j + i ≤ nx N (t - i)) (hi : i < t) : V ≤ t - i := by
  rcases Nat.lt_or_ge (t - i) V with l | l
  · exfalso
    rcases Nat.lt_or_ge (t - i) 10 with q | q
    · have h1 : nx N (t - i) ≤ n := S.le_n (t - i - 1) 1 (Nat.le_refl _)
      omega
    · have := S.small hn q
      omega
  · exact l
/-- not below k - 1 -/
theorem Sys.bot (S : Sys N n) (hn : n ≤ 105) {k c : Nat} (hk : 2 ≤ k) (hk2 : k ≤ 14) (h1 : (k - 1) * k < 2 * n) (h2 : 2 * n ≤ k * (k + 1)) (hc : n + 30 + 19 * (k - 1) ≤ c) : k - 1 ≤ nx N c := by
  rcases Nat.lt_or_ge (nx N c) (k - 1) with l | l
  · exfalso
    have hi : ∀ l', 1 ≤ l' → l' ≤ k - 1 → nx N (c + l') ≤ k - 1 := fun l' a1 a2 => by
      have := S.laps hn l' (c + l') a1 (by omega)
      rw [Nat.add_sub_cancel] at this
      omega
    have bd : ∀ j, 1 ≤ j → N (c + (k - 1)) j ≤ k - j := fun j j1 => by
      rw [S.form _ j j1, S.none 0 (by omega), Nat.zero_add]
      have e : cn (fun _ => true) (k - j) = k - j := cn_all fun _ _ => rfl
      rw [← e]
      refine cn_sub fun i hi' hp => ⟨?_, rfl⟩
      have hp := of_decide_eq_true hp
      have hg := S.gone hn (V := n + 11 + 19 * (k - 1)) (by omega) (by omega) j1 hp hi'
      have ht := S.top hn (by omega) hk2 h2 hg
      rcases Nat.lt_or_ge i (k - 1) with q | q
      · have := hi (k - 1 - i) (by omega) (by omega)
        rw [show c + (k - 1) - i = c + (k - 1 - i) by omega] at hp
        omega
      · rcases Nat.lt_or_ge (k - 1) i with q2 | q2
        · omega
        · rw [show c + (k - 1) - i = c by omega] at hp
          omega
    have a1 := S.all (c + (k - 1)) (n + k) (by omega)
    have a2 : su (N (c + (k - 1))) (n + k) ≤ su (fun j => k - j) (n + k) := su_mono fun j j1 _ => bd j j1
    have a3 : su (fun j => k - j) (n + k) = su (fun j => k - j) (k - 1) := su_stop (by omega) fun j hj => by omega
    have a4 := tri_su ⟨k - 1, by omega⟩
    have a5 : 2 * su (fun j => k - 1 + 1 - j) (k - 1) = (k - 1) * (k - 1 + 1) := a4
    rw [show k - 1 + 1 = k by omega] at a5
    omega
  · exact l
/-- round -/
theorem Sys.round (S : Sys N n) (hn : n ≤ 105) {k t : Nat} (hk : 1 ≤ k) (hk2 : k ≤ 14) (h1 : (k - 1) * k < 2 * n) (h2 : 2 * n ≤ k * (k + 1)) (ht : n + 49 + 19 * (k - 1) ≤ t) {j : Nat} (hj : 1 ≤ j) : k - j ≤ N t j ∧ N t j ≤ k + 1 - j := by
  rw [S.form t j hj, S.none 0 (by omega), Nat.zero_add]
  constructor
  · have e : cn (fun _ => true) (k - j) = k - j := cn_all fun _ _ => rfl
    rw [← e]
    refine cn_sub fun i hi _ => ⟨by omega, decide_eq_true ?_⟩
    have := S.bot hn (k := k) (c := t - i) (by omega) hk2 h1 h2 (by omega)
    omega
  · have e : cn (fun _ => true) (k + 1 - j) = k + 1 - j := cn_all fun _ _ => rfl
    rw [← e]
    refine cn_sub fun i hi hp => ⟨?_, rfl⟩
    have hp := of_decide_eq_true hp
    have hg := S.gone hn (V := n + 11 + 19 * (k - 1)) (by omega) (by omega) hj hp hi
    have := S.top hn hk hk2 h2 hg
    omega
end

def cnt (l : List Int) (j : Nat) : Nat := l.countP fun z => decide ((j : Int) ≤ z)
theorem su_add (f g : Nat → Nat) : ∀ m, su (fun j => f j + g j) m = su f m + su g m
  | 0 => rfl
  | m + 1 => by
    have ih := su_add f g m
    show su (fun j => f j + g j) m + (f (m + 1) + g (m + 1)) = (su f m + f (m + 1)) + (su g m + g (m + 1))
    omega
theorem su_ind (x : Nat) : ∀ m, su (fun j => if j ≤ x then 1 else 0) m = min m x
  | 0 => by
    show 0 = min 0 x
    omega
  | m + 1 => by
    have ih := su_ind x m
    show su (fun j => if j ≤ x then 1 else 0) m + (if m + 1 ≤ x then 1 else 0) = min (m + 1) x
    rw [ih]
    split <;> omega
theorem cnt_cons (x : Int) (r : List Int) (hx : 0 ≤ x) : cnt (x :: r) = fun j => cnt r j + if j ≤ x.toNat then 1 else 0 := by
  funext j
  unfold cnt
  rw [List.countP_cons]
  by_cases c : (j : Int) ≤ x
  · rw [if_pos (decide_eq_true c), if_pos (by omega)]
  · rw [if_neg (fun h => c (of_decide_eq_true h)), if_neg (by omega)]
theorem su_cnt : ∀ {l : List Int}, (∀ x ∈ l, 0 ≤ x) → ∀ m, ((su (cnt l) m : Nat) : Int) ≤ l.sum ∧ (l.sum ≤ (m : Int) → ((su (cnt l) m : Nat) : Int) = l.sum)
  | [], _, m => by
    have e : su (cnt []) m = 0 := by
      have : su (cnt []) m = su (cnt []) 0 := su_stop (Nat.zero_le _) fun j _ => rfl
      exact this
    rw [e]
    exact ⟨Int.le_refl _, fun _ => rfl⟩
  | x :: r, h, m => by
    have hx := h x (List.mem_cons_self ..)
    have hr : ∀ z ∈ r, 0 ≤ z := fun z hz => h z (List.mem_cons_of_mem _ hz)
    obtain ⟨h1, h2⟩ := su_cnt hr m
    rw [cnt_cons x r hx, su_add, su_ind, List.sum_cons]
    have h3 : 0 ≤ r.sum := by
      have := (su_cnt hr 0).1
      exact this
    refine ⟨by omega, fun hm => ?_⟩
    have := h2 (by omega)
    omega
theorem cnt_perm {l m : List Int} (h : l.Perm m) (j : Nat) : cnt l j = cnt m j := h.countP_eq _
theorem cnt_down1 : ∀ (l : List Int) {j : Nat}, 1 ≤ j → cnt (down1 l) j = cnt l (j + 1)
  | [], _, _ => rfl
  | x :: r, j, hj => by
    have ih := cnt_down1 r hj
    unfold cnt at ih ⊢
    rw [down1_cons, List.countP_cons]
    split
    · rw [List.countP_cons, ih]
      by_cases c : (j : Int) ≤ x - 1
      · rw [if_pos (decide_eq_true c), if_pos (decide_eq_true (by omega))]
      · rw [if_neg (fun h => c (of_decide_eq_true h)), if_neg (fun h => c (by have := of_decide_eq_true h; omega))]
    · rw [ih, if_neg (fun h => by have := of_decide_eq_true h; omega)]
      rfl
theorem cnt_one {l : List Int} (h : ∀ x ∈ l, 1 ≤ x) : cnt l 1 = l.length := by
  unfold cnt
  exact List.countP_eq_length.mpr fun x hx => decide_eq_true (h x hx)
theorem cnt_turn {l : List Int} (h : ∀ x ∈ l, 1 ≤ x) {j : Nat} (hj : 1 ≤ j) : cnt (turn l) j = cnt l (j + 1) + if j ≤ cnt l 1 then 1 else 0 := by
  unfold turn
  rw [cnt_one h, cnt_perm (insD_perm _ _), ← cnt_down1 l hj, cnt_cons _ _ (by omega)]
  rfl
theorem cnt_anti (l : List Int) (j : Nat) : cnt l (j + 1) ≤ cnt l j := by
  unfold cnt
  refine List.countP_mono_left fun x _ h => ?_
  have := of_decide_eq_true h
  exact decide_eq_true (by omega)
theorem sys_of {n : Nat} {ns : List Int} (h : IsSet n ns) : Sys (fun t j => cnt (turnN t ns) j) n := by
  have hs : ∀ t, IsSet n (turnN t ns) := fun t => turnN_set h
  refine ⟨fun t j hj => ?_, fun t j => cnt_anti _ j, fun t m => ?_, fun t m hm => ?_⟩
  · have := cnt_turn (hs t).1.pos hj
    show cnt (turnN (t + 1) ns) j = _
    rw [turnN_succ]
    exact this
  · have := (su_cnt (l := turnN t ns) (fun x hx => by have := (hs t).1.pos x hx; omega) m).1
    rw [(hs t).2] at this
    exact Int.ofNat_le.mp this
  · have := (su_cnt (l := turnN t ns) (fun x hx => by have := (hs t).1.pos x hx; omega) m).2
    rw [(hs t).2] at this
    exact Int.ofNat_inj.mp (this (by omega))
/-- of a falling list: the i-th is at least j just where more than i are -/
theorem cnt_falls : ∀ {l : List Int}, Falls l → ∀ (i j : Nat), 1 ≤ j → ((j : Int) ≤ l.getD i 0 ↔ i < cnt l j)
  | [], _, i, j, hj => by
    constructor
    · intro h
      have : (j : Int) ≤ 0 := h
      omega
    · intro h
      have : i < 0 := h
      omega
  | x :: r, hf, i, j, hj => by
    obtain ⟨f1, f2⟩ := List.pairwise_cons.mp hf
    have hc : cnt (x :: r) j = cnt r j + if (j : Int) ≤ x then 1 else 0 := by
      unfold cnt
      rw [List.countP_cons]
      by_cases c : (j : Int) ≤ x
      · rw [if_pos (decide_eq_true c), if_pos c]
      · rw [if_neg (fun h => c (of_decide_eq_true h)), if_neg c]
    rw [hc]
    have low : ¬ (j : Int) ≤ x → cnt r j = 0 := fun c => by
      unfold cnt
      refine List.countP_eq_zero.mpr fun z hz h => ?_
      have := f1 z hz
      have := of_decide_eq_true h
      omega
    cases i with
    | zero =>
      show (j : Int) ≤ x ↔ _
      by_cases c : (j : Int) ≤ x
      · rw [if_pos c]
        exact ⟨fun _ => by omega, fun _ => c⟩
      · rw [if_neg c, low c]
        exact ⟨fun h => absurd h c, fun h => by omega⟩
    | succ i =>
      have ih := cnt_falls f2 i j hj
      show (j : Int) ≤ r.getD i 0 ↔ _
      rw [ih]
      by_cases c : (j : Int) ≤ x
      · rw [if_pos c]
        omega
      · rw [if_neg c, low c]
        omega
/-- behind so many turns it is round -/
theorem round_by {n : Nat} {ns : List Int} (h : IsSet n ns) (h1 : 1 ≤ n) (h2 : n ≤ 100) {t : Nat} (ht : n + 49 + 19 * (stair n - 1) ≤ t) : marksBy (turnN t ns) ≠ [] := by
  have S := sys_of h
  have hs : IsSet n (turnN t ns) := turnN_set h
  obtain ⟨a, b, c⟩ := stair_spec h1
  have hst := stair_le h1 (b := 14) (by omega) (by omega)
  have R := fun j hj => S.round (by omega) (k := stair n) (t := t) a hst b c ht (j := j) hj
  have hsum : (turnN t ns).sum.toNat = n := by rw [hs.2, Int.toNat_natCast]
  have hlen : (turnN t ns).length = cnt (turnN t ns) 1 := (cnt_one hs.1.pos).symm
  have r1 := (R 1 (Nat.le_refl _)).2
  unfold marksBy
  rw [hsum]
  generalize stair n = k at *
  generalize turnN t ns = l at *
  rw [if_neg (by omega), if_pos]
  · intro e
    have := congrArg List.length e
    unfold marksAt at this
    rw [List.length_map, List.length_range, List.length_nil] at this
    omega
  · rw [isBits_iff]
    intro m hm
    unfold marksAt at hm
    obtain ⟨i, hi, rfl⟩ := List.mem_map.mp hm
    have hi := List.mem_range.mp hi
    have up : ¬ ((k - i + 1 : Nat) : Int) ≤ l.getD i 0 := fun h => by
      have := (cnt_falls hs.1.falls i (k - i + 1) (by omega)).mp h
      have := (R (k - i + 1) (by omega)).2
      omega
    have lo : ((k - 1 - i : Nat) : Int) ≤ l.getD i 0 := by
      rcases Nat.eq_zero_or_pos (k - 1 - i) with e | e
      · rw [e, List.getD_eq_getElem?_getD]
        cases hq : l[i]? with
        | none => exact Int.le_refl _
        | some z =>
          have := hs.1.pos z (List.mem_of_getElem? hq)
          show (0 : Int) ≤ z
          omega
      · refine (cnt_falls hs.1.falls i (k - 1 - i) e).mpr ?_
        have := (R (k - 1 - i) e).1
        omega
    omega

theorem marksAt_lenW (S : Nat) (ns : List Int) : (marksAt S ns).length = S := by
  unfold marksAt
  rw [List.length_map, List.length_range]
theorem marksAt_getW {S : Nat} {ns : List Int} {k : Nat} (h : k < S) : (marksAt S ns)[k]? = some (ns.getD k 0 - ((S : Int) - 1 - (k : Int))) := by
  unfold marksAt
  rw [List.getElem?_map, List.getElem?_range h] <;> rfl
theorem filter_pad {x : List Int} (h : ∀ z ∈ x, 1 ≤ z) (m : Nat) : (x ++ List.replicate m 0).filter (fun z => decide (z > 0)) = x := by
  rw [List.filter_append, List.filter_eq_self.mpr fun z hz => decide_eq_true (by have := h z hz; omega), List.filter_eq_nil_iff.mpr fun z hz => by
    rw [List.eq_of_mem_replicate hz]
    decide, List.append_nil]
theorem round_inv {n : Nat} {x : List Int} (h : IsSet n x) (h1 : 1 ≤ n) (hm : marksBy x ≠ []) : Bits (marksBy x) ∧ ofMarks (marksBy x) = x ∧ 1 ≤ (marksBy x).sum ∧ (marksBy x).length = stair n := by
  have hsum : x.sum.toNat = n := by rw [h.2, Int.toNat_natCast]
  obtain ⟨r1, r2, r3⟩ := rest_spec h1
  unfold marksBy at hm ⊢
  rw [hsum] at hm ⊢
  generalize hS : stair n = S at *
  by_cases c1 : S < x.length
  · rw [if_pos c1] at hm
    exact absurd rfl hm
  · rw [if_neg c1] at hm ⊢
    by_cases c2 : isBits (marksAt S x) = true
    · rw [if_pos c2]
      have hb := isBits_iff.mp c2
      have hl := marksAt_lenW S x
      have e : mk (marksAt S x) = x ++ List.replicate (S - x.length) 0 := by
        refine List.ext_getElem? fun i => ?_
        rcases Nat.lt_or_ge i S with l | l
        · rw [mk_get (marksAt_getW l), hl]
          rcases Nat.lt_or_ge i x.length with q | q
          · rw [List.getElem?_append_left q, List.getElem?_eq_getElem q, List.getD_eq_getElem?_getD, List.getElem?_eq_getElem q]
            congr 1
            show (S : Int) - 1 - i + (x[i] - ((S : Int) - 1 - i)) = x[i]
            omega
          · rw [List.getElem?_append_right q, List.getElem?_replicate, if_pos (by omega), List.getD_eq_getElem?_getD, List.getElem?_eq_none q]
            congr 1
            show (S : Int) - 1 - i + (0 - ((S : Int) - 1 - i)) = 0
            omega
        · rw [List.getElem?_eq_none (by rw [mk_length, hl]; exact l), List.getElem?_eq_none (by rw [List.length_append, List.length_replicate]; omega)]
      have eo : ofMarks (marksAt S x) = x := by
        unfold ofMarks
        rw [e]
        exact filter_pad h.1.pos _
      refine ⟨hb, eo, ?_, hl⟩
      have hs := ofMarks_sum hb
      rw [eo, h.2, hl] at hs
      omega
    · rw [if_neg c2] at hm
      exact absurd rfl hm
/-- a round setting's ring -/
theorem round_ring {n : Nat} {x : List Int} (h : IsSet n x) (h1 : 1 ≤ n) (h2 : n ≤ 100) (hm : marksBy x ≠ []) : (∃ d, d ≤ 14 ∧ Ring x d) ∧ ∀ i, marksBy (turnN i x) ≠ [] := by
  obtain ⟨b, e, s, l⟩ := round_inv h h1 hm
  have hst := stair_le h1 (b := 14) (by omega) (by omega)
  generalize marksBy x = ms at *
  subst e
  obtain ⟨d, hd, hr⟩ := ofMarks_ring b s
  refine ⟨⟨d, by omega, hr⟩, fun i => ?_⟩
  obtain ⟨q1, q2, q3, q4⟩ := rotN_facts b s i
  rw [q4, marksBy_of q1 (by omega)]
  intro e
  rw [e] at q2
  rw [← q2] at s
  exact absurd s (by decide)
theorem way_ex {n : Nat} {ns : List Int} (h : IsSet n ns) (h1 : 1 ≤ n) (h2 : n ≤ 100) : ∃ w, w ≤ 396 ∧ (∀ j, j < w → marksBy (turnN j ns) = []) ∧ marksBy (turnN w ns) ≠ [] := by
  have hst := stair_le h1 (b := 14) (by omega) (by omega)
  have hr := round_by h h1 h2 (t := 396) (by omega)
  obtain ⟨w, a, b, c⟩ := least_of (p := fun w => marksBy (turnN w ns) ≠ []) 396 hr
  exact ⟨w, a, fun j hj => Classical.byContradiction fun e => c j hj e, b⟩

/-! ### lists of ints compared -/
theorem dpAll_ints {K : PySem.W.Frag} {H : Hp} : ∀ ns : List Int, DpAll K H (ns.map V.int) (ns.map PyData.int)
  | [] => .nil
  | n :: r => .cons (.int n) (dpAll_ints r)
theorem dp_ints {K : PySem.W.Frag} {H : Hp} {a : Addr} {ns : List Int} (h : SqL K H a (ns.map V.int)) : Dp K H (.ref a) (.list (ns.map PyData.int)) := .lst h (dpAll_ints ns)
theorem sh_all_ints : ∀ ns : List Int, PyData.canLayAll0 (ns.map PyData.int) = true ∧ PyData.depthAll (ns.map PyData.int) = 0
  | [] => ⟨rfl, rfl⟩
  | n :: r => by
    obtain ⟨h1, h2⟩ := sh_all_ints r
    refine ⟨?_, ?_⟩
    · rw [List.map_cons, PyData.canLayAll0, h1] <;> rfl
    · rw [List.map_cons, PyData.depthAll, h2] <;> rfl
theorem sh_ints (ns : List Int) : SeqAt.shaped (.list (ns.map PyData.int)) = true := by
  obtain ⟨h1, h2⟩ := sh_all_ints ns
  unfold SeqAt.shaped
  rw [PyData.canLay0, PyData.depth, h1, h2] <;> rfl
theorem eqv_all_ints : ∀ ns ms : List Int, PyData.eqvAll (ns.map PyData.int) (ms.map PyData.int) = decide (ns = ms)
  | [], [] => by rw [List.map_nil, PyData.eqvAll] <;> rfl
  | [], m :: ms => by rw [List.map_nil, List.map_cons, PyData.eqvAll] <;> simp
  | n :: ns, [] => by rw [List.map_nil, List.map_cons, PyData.eqvAll] <;> simp
  | n :: ns, m :: ms => by
    rw [List.map_cons, List.map_cons, PyData.eqvAll, eqv_all_ints ns ms, PyData.eqv]
    by_cases e : n = m
    · subst e
      simp
    · simp [e]
theorem eqv_ints (ns ms : List Int) : PyData.eqv (.list (ns.map PyData.int)) (.list (ms.map PyData.int)) = decide (ns = ms) := by
  rw [PyData.eqv]
  exact eqv_all_ints ns ms
/-! ### a list that is looked at place by place -/
def Adj (ns : List Int) (i : Nat) : Prop := ∀ j, j < i → ∀ x, ns[j]? = some x → 1 ≤ x ∧ ∀ y, 0 < j → ns[j - 1]? = some y → x ≤ y
theorem falls_of_adj : ∀ {ns : List Int}, (∀ j x y, ns[j + 1]? = some x → ns[j]? = some y → x ≤ y) → Falls ns
  | [], _ => List.Pairwise.nil
  | [_], _ => List.pairwise_singleton _ _
  | a :: b :: r, h => by
    have ih : Falls (b :: r) := falls_of_adj fun j x y hx hy => h (j + 1) x y hx hy
    have hab : b ≤ a := h 0 b a rfl rfl
    refine List.pairwise_cons.mpr ⟨fun z hz => ?_, ih⟩
    rcases List.mem_cons.mp hz with rfl | hz
    · exact hab
    · have := (List.pairwise_cons.mp ih).1 z hz
      show z ≤ a
      omega
theorem good_adj {ns : List Int} : Good ns ↔ ns ≠ [] ∧ Adj ns ns.length := by
  constructor
  · intro h
    refine ⟨h.ne, fun j hj x hx => ⟨h.pos x (List.mem_of_getElem? hx), fun y h0 hy => ?_⟩⟩
    obtain ⟨i, rfl⟩ : ∃ i, j = i + 1 := ⟨j - 1, by omega⟩
    obtain ⟨a1, a2⟩ := List.getElem?_eq_some_iff.mp hx
    obtain ⟨b1, b2⟩ := List.getElem?_eq_some_iff.mp hy
    have := List.pairwise_iff_getElem.mp h.falls i (i + 1) (by omega) a1 (by omega)
    rw [← a2, ← b2]
    exact this
  · rintro ⟨h0, h⟩
    refine ⟨fun x hx => ?_, falls_of_adj fun j x y hx hy => ?_, h0⟩
    · obtain ⟨j, hj⟩ := List.getElem?_of_mem hx
      exact (h j (List.getElem?_eq_some_iff.mp hj).1 x hj).1
    · exact (h (j + 1) (List.getElem?_eq_some_iff.mp hx).1 x hx).2 y (by omega) hy
theorem insD_at {x : Int} : ∀ {l : List Int} {j : Nat}, j ≤ l.length → (∀ i y, i < j → l[i]? = some y → y > x) → (∀ y, l[j]? = some y → ¬ y > x) → insD x l = l.take j ++ [x] ++ l.drop j
  | [], 0, _, _, _ => rfl
  | [], j + 1, h, _, _ => by simp at h
  | a :: r, 0, _, _, h => by
    unfold insD
    rw [if_neg (h a rfl)] <;> rfl
  | a :: r, j + 1, hj, h1, h2 => by
    unfold insD
    rw [if_pos (h1 0 a (by omega) rfl), insD_at (l := r) (j := j) (by simpa using hj) (fun i y hi hy => h1 (i + 1) y (by omega) hy) h2] <;> rfl
theorem op_eqDK {X : Cx} (K : PySem.W.Frag) (hu : X.A.units + 64 < cLine) (h : X.K = K := by rfl) : OpR X (compareOp .Eq) (rEqD K) := by
  subst h
  exact op_eqD hu

/-! ### lists of lists -/
def LLs (H : Hp) : List Addr → List (List Int) → Prop
  | [], [] => True
  | a :: as, n :: ns => IL H a n ∧ LLs H as ns
  | _, _ => False
theorem LLs.same {H H' : Hp} (e : Same H H') : ∀ {as : List Addr} {ns : List (List Int)}, LLs H as ns → LLs H' as ns
  | [], [], _ => trivial
  | _ :: _, _ :: _, h => ⟨e _ _ h.1, h.2.same e⟩
  | [], _ :: _, h => h.elim
  | _ :: _, [], h => h.elim
theorem LLs.upd {H : Hp} {p : Addr} {o : HO} : ∀ {as : List Addr} {ns : List (List Int)}, (∀ a ∈ as, a ≠ p) → LLs H as ns → LLs (upd H p o) as ns
  | [], [], _, _ => trivial
  | a :: _, _ :: _, hn, h => ⟨by show L2.upd _ _ _ _ = _; rw [upd_ne (hn a (List.mem_cons_self ..))]; exact h.1, h.2.upd fun b hb => hn b (List.mem_cons_of_mem _ hb)⟩
  | [], _ :: _, _, h => h.elim
  | _ :: _, [], _, h => h.elim
theorem LLs.len {H : Hp} : ∀ {as : List Addr} {ns : List (List Int)}, LLs H as ns → as.length = ns.length
  | [], [], _ => rfl
  | _ :: _, _ :: _, h => congrArg (· + 1) h.2.len
  | [], _ :: _, h => h.elim
  | _ :: _, [], h => h.elim
theorem LLs.get {H : Hp} : ∀ {as : List Addr} {ns : List (List Int)} {i : Nat} {a : Addr}, LLs H as ns → as[i]? = some a → ∃ n, ns[i]? = some n ∧ IL H a n
  | [], [], _, _, _, h => by simp at h
  | b :: _, m :: _, 0, a, h, e => by
    have : b = a := Option.some.inj e
    subst this
    exact ⟨m, rfl, h.1⟩
  | _ :: _, _ :: _, i + 1, a, h, e => LLs.get (i := i) h.2 e
  | [], _ :: _, _, _, h, _ => h.elim
  | _ :: _, [], _, _, h, _ => h.elim
theorem LLs.app {H : Hp} : ∀ {as bs : List Addr} {ns ms : List (List Int)}, LLs H as ns → LLs H bs ms → LLs H (as ++ bs) (ns ++ ms)
  | [], _, [], _, _, g => g
  | _ :: _, _, _ :: _, _, h, g => ⟨h.1, h.2.app g⟩
  | [], _, _ :: _, _, h, _ => h.elim
  | _ :: _, _, [], _, h, _ => h.elim
theorem LLs.in_ {H : Hp} : ∀ {as : List Addr} {ns : List (List Int)} {a : Addr}, LLs H as ns → a ∈ as → ∃ n, n ∈ ns ∧ IL H a n := fun h ha => by
  obtain ⟨i, hi⟩ := List.getElem?_of_mem ha
  obtain ⟨n, e, q⟩ := h.get hi
  exact ⟨n, List.mem_of_getElem? e, q⟩
/-- a list of lists -/
def LL (H : Hp) (a : Addr) (as : List Addr) (ns : List (List Int)) : Prop := H a = some (.lst (as.map V.ref)) ∧ LLs H as ns
/-- a new list of new lists -/
abbrev NLL (Q : VK) (H : Hp) (ns : List (List Int)) : Prop := ∀ (H' : Hp) (p : Addr) (as : List Addr), Same H H' → H p = none → (∀ a ∈ as, H a = none) → LL H' p as ns → Q (.ref p) H'
theorem get_ref {as : List Addr} {i : Nat} {x : V} (h : (as.map V.ref)[i]? = some x) : ∃ z, as[i]? = some z ∧ x = .ref z := by
  rw [List.getElem?_map] at h
  cases e : as[i]? with
  | none => rw [e] at h; cases h
  | some z => rw [e] at h; exact ⟨z, rfl, (Option.some.inj h).symm⟩
theorem ref_get {as : List Addr} {i : Nat} {z : Addr} (h : as[i]? = some z) : (as.map V.ref)[i]? = some (.ref z) := by
  rw [List.getElem?_map, h] <;> rfl
theorem rlen {as : List Addr} : (as.map V.ref).length = as.length := List.length_map _
theorem two_pow_small {c : Nat} (h : c ≤ 20) : 2 ^ c ≤ 1048576 := Nat.pow_le_pow_right (by decide) h
theorem smallM {n : Nat} (h : n ≤ 1048576) : n < sizeLine := Nat.lt_of_le_of_lt h (by decide)

/-! ### lists of lists compared -/
def toD (n : List Int) : PyData := .list (n.map PyData.int)
theorem dpAll_lls {K : PySem.W.Frag} {H : Hp} : ∀ {as : List Addr} {nss : List (List Int)}, LLs H as nss → DpAll K H (as.map V.ref) (nss.map toD)
  | [], [], _ => .nil
  | _ :: _, _ :: _, h => .cons (dp_ints (sq h.1)) (dpAll_lls h.2)
  | [], _ :: _, h => h.elim
  | _ :: _, [], h => h.elim
theorem dp_ll {K : PySem.W.Frag} {H : Hp} {a : Addr} {as : List Addr} {nss : List (List Int)} (h : LL H a as nss) : Dp K H (.ref a) (.list (nss.map toD)) := .lst (sq h.1) (dpAll_lls h.2)
theorem sh_all_lls : ∀ nss : List (List Int), PyData.canLayAll0 (nss.map toD) = true ∧ PyData.depthAll (nss.map toD) ≤ 1
  | [] => ⟨rfl, Nat.zero_le _⟩
  | n :: r => by
    obtain ⟨h1, h2⟩ := sh_all_lls r
    obtain ⟨g1, g2⟩ := sh_all_ints n
    refine ⟨?_, ?_⟩
    · rw [List.map_cons, PyData.canLayAll0, h1]
      unfold toD
      rw [PyData.canLay0, g1] <;> rfl
    · rw [List.map_cons, PyData.depthAll]
      have : PyData.depth (toD n) = 1 := by
        unfold toD
        rw [PyData.depth, g2]
      omega
theorem sh_lls (nss : List (List Int)) : SeqAt.shaped (.list (nss.map toD)) = true := by
  obtain ⟨h1, h2⟩ := sh_all_lls nss
  unfold SeqAt.shaped
  rw [PyData.canLay0, PyData.depth, h1]
  exact decide_eq_true (by omega)
theorem any_lls (n : List Int) : ∀ nss : List (List Int), ((nss.map toD).any fun z => PyData.eqv z (toD n)) = decide (n ∈ nss)
  | [] => rfl
  | m :: r => by
    rw [List.map_cons, List.any_cons, any_lls n r]
    unfold toD
    rw [eqv_ints]
    by_cases e : m = n
    · subst e
      simp
    · by_cases e2 : n ∈ r
      · simp [e, e2]
      · have e3 : ¬ n = m := fun h => e h.symm
        simp [e, e2, e3]
theorem eqv_all_lls : ∀ ns ms : List (List Int), PyData.eqvAll (ns.map toD) (ms.map toD) = decide (ns = ms)
  | [], [] => by rw [List.map_nil, PyData.eqvAll] <;> rfl
  | [], m :: ms => by rw [List.map_nil, List.map_cons, PyData.eqvAll] <;> simp
  | n :: ns, [] => by rw [List.map_nil, List.map_cons, PyData.eqvAll] <;> simp
  | n :: ns, m :: ms => by
    rw [List.map_cons, List.map_cons, PyData.eqvAll, eqv_all_lls ns ms]
    unfold toD
    rw [eqv_ints]
    by_cases e : n = m
    · subst e
      simp
    · simp [e]
theorem eqv_lls (ns ms : List (List Int)) : PyData.eqv (.list (ns.map toD)) (.list (ms.map toD)) = decide (ns = ms) := by
  rw [PyData.eqv]
  exact eqv_all_lls ns ms
theorem LLs.ne {H : Hp} {p : Addr} (h : H p = none) {as : List Addr} {nss : List (List Int)} (q : LLs H as nss) : ∀ a ∈ as, a ≠ p := fun a ha => by
  obtain ⟨m, _, em⟩ := q.in_ ha
  exact ne_of_none em h
/-- a list of refs that is not empty is no list of ints -/
theorem ref_ne_int {H : Hp} {f a : Addr} {fs : List Addr} {x : List Int} (hf : H f = some (.lst (fs.map V.ref))) (ha : H a = some (.lst (x.map V.int))) (h : 0 < fs.length) : f ≠ a := fun e => by
  rw [e, ha] at hf
  have h2 := Option.some.inj hf
  have h3 : x.map V.int = fs.map V.ref := by
    injection h2
  have g0 : fs[0]? = some (fs[0]'h) := List.getElem?_eq_getElem h
  have h4 := congrArg (fun l => l[0]?) h3
  simp only [List.getElem?_map, g0, Option.map_some] at h4
  cases hx0 : x[0]? with
  | none =>
    rw [hx0] at h4
    cases h4
  | some z =>
    rw [hx0] at h4
    cases h4
theorem cut_butlast (xs : List V) : cutV xs none (some (-1)) = xs.dropLast := by
  unfold cutV
  rw [HT.sIx_none, show HT.sIx xs.length xs.length (some (-1)) = xs.length - 1 by
    show (if (-1 : Int) < 0 then ((-1 : Int) + (xs.length : Int)).toNat else min (-1 : Int).toNat xs.length) = xs.length - 1
    rw [if_pos (by decide)]
    omega, Nat.sub_zero, List.drop_zero, List.dropLast_eq_take]
/-- the script and a new object -/
theorem SL.apart {K : PySem.W.Frag} {H : Hp} {a D : Addr} {ns : List Int} (h : SL K H a ns) (n : H D = none) : a ≠ D ∨ ∀ H, SL K H a ns := by
  rcases h with (e | ⟨o, e⟩) | e
  · exact .inl (ne_of_none e n)
  · exact .inl (ne_of_none e n)
  · exact .inr fun _ => .inr e
theorem SL.upd {K : PySem.W.Frag} {H : Hp} {a D : Addr} {ns : List Int} {o : HO} (h : SL K H a ns) (d : a ≠ D ∨ ∀ H, SL K H a ns) : SL K (upd H D o) a ns := by
  rcases d with d | d
  · rcases h with (e | ⟨o', e⟩) | e
    · exact .inl (.inl (by rw [upd_ne d]; exact e))
    · exact .inl (.inr ⟨o', by rw [upd_ne d]; exact e⟩)
    · exact .inr e
  · exact d _

/-! ### the first setting that comes again; dicts with settings for keys -/
structure Meet (ns : List Int) (i p : Nat) : Prop where
  pos : 1 ≤ p
  back : turnN (i + p) ns = turnN i ns
  inj : ∀ a b, a < b → b < i + p → turnN a ns ≠ turnN b ns
theorem meet_ex {n : Nat} {ns : List Int} (h : IsSet n ns) (h1 : 1 ≤ n) (h2 : n ≤ 100) : ∃ i p, i + p ≤ 410 ∧ Meet ns i p := by
  obtain ⟨w, hw, _, ht⟩ := way_ex h h1 h2
  obtain ⟨⟨d, hd, hring⟩, _⟩ := round_ring (turnN_set (j := w) h) h1 h2 ht
  have e : turnN (w + d) ns = turnN w ns := by
    rw [Nat.add_comm, turnN_add]
    exact hring.back
  have hp := hring.pos
  obtain ⟨L, hL, ⟨i, hi, ei⟩, hb⟩ := least_of (p := fun L => ∃ i, i < L ∧ turnN L ns = turnN i ns) (w + d) ⟨w, by omega, e⟩
  refine ⟨i, L - i, by omega, by omega, by rw [show i + (L - i) = L by omega]; exact ei, fun a b hab hbL e => ?_⟩
  exact hb b (by omega) ⟨a, hab, e.symm⟩
theorem turnN_per {ns : List Int} {i p : Nat} (h : turnN (i + p) ns = turnN i ns) : ∀ m q, turnN (i + p * m + q) ns = turnN (i + q) ns
  | 0, q => rfl
  | m + 1, q => by
    have e : i + p * (m + 1) + q = (p * m + q) + (i + p) := by
      rw [Nat.mul_add, Nat.mul_one]
      omega
    rw [e, turnN_add, h, ← turnN_add, show p * m + q + i = i + p * m + q by omega]
    exact turnN_per h m q
theorem Meet.at {ns : List Int} {i p : Nat} (h : Meet ns i p) {t : Nat} (ht : i ≤ t) : turnN t ns = turnN (i + (t - i) % p) ns := by
  have := turnN_per h.back ((t - i) / p) ((t - i) % p)
  have e := Nat.div_add_mod (t - i) p
  rw [show i + p * ((t - i) / p) + (t - i) % p = t by omega] at this
  exact this
def kT (x : List Int) : List Key := x.map Sum.inl
theorem kT_map (x : List Int) : (kT x).map kV = x.map V.int := by
  unfold kT
  rw [List.map_map]
  rfl
theorem kT_inj : ∀ {x y : List Int}, kT x = kT y → x = y
  | [], [], _ => rfl
  | [], _ :: _, h => by cases h
  | _ :: _, [], h => by cases h
  | a :: x, b :: y, h => by
    have h : (Sum.inl a : Key) :: kT x = Sum.inl b :: kT y := h
    injection h with h1 h2
    injection h1 with h1
    rw [h1, kT_inj h2]
theorem valV_no {kvs : List (List Key × V)} {k : List Key} (h : ∀ kv ∈ kvs, kv.1 ≠ k) : valV kvs k = none := by
  unfold valV
  rw [List.find?_eq_none.mpr fun kv hk c => h kv hk (of_decide_eq_true c)]
  rfl
theorem valV_yes {kvs : List (List Key × V)} {k : List Key} {v : V} (h : (k, v) ∈ kvs) (hu : ∀ kv ∈ kvs, kv.1 = k → kv.2 = v) : valV kvs k = some v := by
  unfold valV
  cases e : kvs.find? fun kv => decide (kv.1 = k) with
  | none => exact absurd (decide_eq_true rfl) (List.find?_eq_none.mp e _ h)
  | some kv => exact congrArg some (hu kv (List.mem_of_find?_eq_some e) (of_decide_eq_true (List.find?_some (p := fun kv : List Key × V => decide (kv.1 = k)) e)))
/-- what was seen on the way -/
def seenL (j : Nat) (ns : List Int) : List (List Key × V) := (List.range j).map fun i => (kT (turnN i ns), V.int i)
theorem seenL_succ (j : Nat) (ns : List Int) : seenL (j + 1) ns = seenL j ns ++ [(kT (turnN j ns), V.int j)] := by
  unfold seenL
  rw [List.range_succ, List.map_append] <;> rfl
theorem mem_seenL {j : Nat} {ns : List Int} {kv : List Key × V} : kv ∈ seenL j ns ↔ ∃ i, i < j ∧ (kT (turnN i ns), V.int i) = kv := by
  unfold seenL
  simp only [List.mem_map, List.mem_range]
theorem seenL_no {j : Nat} {ns x : List Int} (h : ∀ i, i < j → turnN i ns ≠ x) : valV (seenL j ns) (kT x) = none := valV_no fun kv hk e => by
  obtain ⟨i, hi, rfl⟩ := mem_seenL.mp hk
  exact h i hi (kT_inj e)
theorem seenL_yes {j i : Nat} {ns x : List Int} (hi : i < j) (e : turnN i ns = x) (hu : ∀ a b, a < b → b < j → turnN a ns ≠ turnN b ns) : valV (seenL j ns) (kT x) = some (.int i) := by
  subst e
  refine valV_yes (mem_seenL.mpr ⟨i, hi, rfl⟩) fun kv hk e => ?_
  obtain ⟨q, hq, rfl⟩ := mem_seenL.mp hk
  have e := kT_inj e
  rcases Nat.lt_trichotomy q i with l | l | l
  · exact absurd e (hu q i l hi)
  · rw [l]
  · exact absurd e.symm (hu i q l hq)
theorem seenL_len (j : Nat) (ns : List Int) : (seenL j ns).length = j := by
  unfold seenL
  rw [List.length_map, List.length_range]
theorem hu1 {A : Around} {k : Nat} (r : Room k A) : A.units + 1 < cLine := by
  have := r.un
  omega
theorem LLs.at {H : Hp} : ∀ {as : List Addr} {ns : List (List Int)} {i : Nat} {m : List Int}, LLs H as ns → ns[i]? = some m → ∃ a, as[i]? = some a ∧ IL H a m := fun {as ns i m} h e => by
  have hl := h.len
  have hi : i < as.length := by
    rw [hl]
    exact (List.getElem?_eq_some_iff.mp e).1
  have ha : as[i]? = some as[i] := List.getElem?_eq_getElem hi
  obtain ⟨m', em, q⟩ := h.get ha
  rw [e] at em
  obtain rfl := Option.some.inj em
  exact ⟨_, ha, q⟩
theorem ringL_get {d j : Nat} {x : List Int} (h : j < d) : (ringL d x)[j]? = some (turnN j x) := by
  unfold ringL
  rw [List.getElem?_map, List.getElem?_range h] <;> rfl

/-! ### the sharp bound: how late a rise of two may be -/
theorem cn_add (p : Nat → Bool) (a : Nat) : ∀ b, cn p (a + b) = cn p a + cn (fun i => p (a + i)) b
  | 0 => rfl
  | b + 1 => by
    have ih := cn_add p a b
    show cn p (a + b) + (if p (a + b) = true then 1 else 0) = cn p a + (cn (fun i => p (a + i)) b + (if p (a + b) = true then 1 else 0))
    omega
theorem cn_none {p : Nat → Bool} : ∀ {m : Nat}, (∀ i, i < m → p i = false) → cn p m = 0
  | 0, _ => rfl
  | m + 1, h => by
    show cn p m + _ = 0
    rw [cn_none fun i hi => h i (by omega), h m (by omega)]
    rfl
section
variable {N : Nat → Nat → Nat} {n : Nat}
theorem Sys.rise (S : Sys N n) : ∀ d c, 1 ≤ c → nx N c + 2 ≤ nx N (c + (d + 1)) → c ≤ (nx N c + 1) * d := by
  intro d
  induction d using Nat.strongRecOn with
  | ind d ih =>
    intro c hc h
    cases d with
    | zero =>
      have := S.up1 hc
      rw [Nat.zero_add] at h
      omega
    | succ d =>
      have form : ∀ c, 1 ≤ c → nx N c = N 0 c + cn (fun i => decide (1 + i ≤ nx N (c - 1 - i))) (c - 1) := fun c hc => by
        have := S.form (c - 1) 1 (Nat.le_refl _)
        rw [show 1 + (c - 1) = c by omega] at this
        exact this
      have f1 := form c hc
      by_cases hex : ∃ i, i < c - 1 ∧ ¬ 1 + i ≤ nx N (c - 1 - i)
      · obtain ⟨i0, h0, h1⟩ := hex
        obtain ⟨q, hq, ⟨q1, q2⟩, q3⟩ := least_of (p := fun i => i < c - 1 ∧ ¬ 1 + i ≤ nx N (c - 1 - i)) i0 ⟨h0, h1⟩
        have alive : ∀ i, i < q → 1 + i ≤ nx N (c - 1 - i) := fun i hi => by
          by_cases e : 1 + i ≤ nx N (c - 1 - i)
          · exact e
          · exact absurd ⟨by omega, e⟩ (q3 i hi)
        -- the first q are alive, the next is not
        have e1 : c - 1 = q + (1 + (c - 1 - (q + 1))) := by omega
        have s1 : cn (fun i => decide (1 + i ≤ nx N (c - 1 - i))) (c - 1) = q + (0 + cn (fun i => decide (1 + (q + (1 + i)) ≤ nx N (c - 1 - (q + (1 + i))))) (c - 1 - (q + 1))) := by
          conv => lhs; rw [e1]
          rw [cn_add, cn_add, cn_all fun i hi => decide_eq_true (by rw [← e1]; exact alive i hi), cn_none (m := 1) fun i hi => decide_eq_false (by
            obtain rfl : i = 0 := by omega
            rw [← e1]
            exact q2)]
          rw [← e1]
        have hqb : q ≤ nx N c := by omega
        by_cases hlow : ∃ m, m ≤ d ∧ nx N (c - 1 - q) + 2 ≤ nx N (c - 1 - q + (m + 1))
        · obtain ⟨m, m1, m2⟩ := hlow
          have i1 := ih m (by omega) (c - 1 - q) (by omega) m2
          have i2 : (nx N (c - 1 - q) + 1) * m ≤ (q + 1) * d := Nat.mul_le_mul (by omega) m1
          have i3 : (q + 1) * (d + 1) ≤ (nx N c + 1) * (d + 1) := Nat.mul_le_mul_right _ (by omega)
          rw [Nat.mul_succ (q + 1) d] at i3
          omega
        · exfalso
          have low : ∀ m, m ≤ d → nx N (c - 1 - q + (m + 1)) ≤ q + 1 := fun m hm => by
            by_cases e : nx N (c - 1 - q) + 2 ≤ nx N (c - 1 - q + (m + 1))
            · exact absurd ⟨m, hm, e⟩ hlow
            · omega
          have f2 := form (c + (d + 1 + 1)) (by omega)
          have e2 : c + (d + 1 + 1) - 1 = (q + 1) + ((d + 2) + (c - 1 - (q + 1))) := by omega
          have s2 : cn (fun i => decide (1 + i ≤ nx N (c + (d + 1 + 1) - 1 - i))) (c + (d + 1 + 1) - 1) ≤ (q + 1) + (0 + cn (fun i => decide (1 + (q + (1 + i)) ≤ nx N (c - 1 - (q + (1 + i))))) (c - 1 - (q + 1))) := by
            conv => lhs; arg 2; rw [e2]
            rw [cn_add _ (q + 1), cn_add _ (d + 2)]
            refine Nat.add_le_add (cn_le _ _) (Nat.add_le_add (Nat.le_of_eq (cn_none fun r hr => decide_eq_false fun hh => ?_)) (cn_mono fun r hr hh => ?_))
            · rcases Nat.lt_or_ge d r with l | l
              · rw [show c + (d + 1 + 1) - 1 - (q + 1 + r) = c - 1 - q by omega] at hh
                omega
              · have := low (d - r) (by omega)
                rw [show c - 1 - q + (d - r + 1) = c + (d + 1 + 1) - 1 - (q + 1 + r) by omega] at this
                omega
            · have hh := of_decide_eq_true hh
              rw [show c + (d + 1 + 1) - 1 - (q + 1 + (d + 2 + r)) = c - 1 - (q + (1 + r)) by omega] at hh
              exact decide_eq_true (by omega)
          have := anti_le S 0 (show c ≤ c + (d + 1 + 1) by omega)
          omega
      · have all : ∀ i, i < c - 1 → 1 + i ≤ nx N (c - 1 - i) := fun i hi => by
          by_cases e : 1 + i ≤ nx N (c - 1 - i)
          · exact e
          · exact absurd ⟨i, hi, e⟩ hex
        rw [cn_all fun i hi => decide_eq_true (all i hi)] at f1
        have : (nx N c + 1) * 1 ≤ (nx N c + 1) * (d + 1) := Nat.mul_le_mul_left _ (by omega)
        omega
end

/-! ### the stairs -/
/-- coins of the piles behind the newest: d - 1 of them, of at least k each -/
def gk (k d : Nat) : Nat := su (fun j => min (d - 1) (k - j)) k
theorem gk_full : ∀ k : Fin 14, 2 * gk k.1 k.1 = k.1 * (k.1 - 1) := by decide +kernel
theorem gk_near : ∀ k : Fin 14, 2 ≤ k.1 → 2 * gk k.1 (k.1 - 1) + 2 = k.1 * (k.1 - 1) := by decide +kernel
theorem gk_far : ∀ k d : Fin 14, 1 ≤ d.1 → d.1 + 2 ≤ k.1 → 2 * (k.1 * (d.1 - 1) + d.1) + k.1 * (k.1 + 1) < 2 * (k.1 * k.1 - k.1) + 2 * gk k.1 d.1 + 4 := by decide +kernel
theorem sq_nums : ∀ k : Fin 14, 3 * k.1 ≤ k.1 * k.1 + 2 ∧ (2 ≤ k.1 → ∀ d : Fin 14, d.1 + 1 ≤ k.1 → k.1 * (d.1 - 1) + d.1 + 1 ≤ k.1 * k.1 - k.1) := by decide +kernel
theorem su_same {f g : Nat → Nat} : ∀ {m : Nat}, (∀ j, 1 ≤ j → j ≤ m → f j ≤ g j) → su g m ≤ su f m → ∀ j, 1 ≤ j → j ≤ m → g j = f j
  | 0, _, _, j, h1, h2 => by omega
  | m + 1, h, hs, j, h1, h2 => by
    have hs : su g m + g (m + 1) ≤ su f m + f (m + 1) := hs
    have a := su_mono (f := f) (g := g) (m := m) fun i i1 i2 => h i i1 (by omega)
    have b := h (m + 1) (by omega) (by omega)
    rcases Nat.lt_or_ge j (m + 1) with l | l
    · exact su_same (m := m) (fun i i1 i2 => h i i1 (by omega)) (by omega) j h1 (by omega)
    · obtain rfl : j = m + 1 := by omega
      omega
section
variable {N : Nat → Nat → Nat} {n : Nat}
def Behind (N : Nat → Nat → Nat) (k d c : Nat) : Prop := ∀ q, 1 ≤ q → q < d → q < c ∧ k ≤ nx N (c - q)
theorem Sys.low (S : Sys N n) {k d c : Nat} (hc : 1 ≤ c) (hb : Behind N k d c) {j : Nat} (hj : 1 ≤ j) : (if j ≤ nx N c then 1 else 0) + min (d - 1) (k - j) ≤ N c j := by
  rw [S.form c j hj]
  refine Nat.le_trans ?_ (Nat.le_add_left _ _)
  obtain ⟨m, rfl⟩ : ∃ m, c = 1 + m := ⟨c - 1, by omega⟩
  rw [cn_add _ 1 m]
  refine Nat.add_le_add ?_ ?_
  · show _ ≤ 0 + (if decide (j + 0 ≤ nx N (1 + m - 0)) = true then 1 else 0)
    by_cases e : j ≤ nx N (1 + m)
    · rw [if_pos e, if_pos (decide_eq_true (show j + 0 ≤ nx N (1 + m - 0) from e))]
      omega
    · rw [if_neg e]
      omega
  · have e : cn (fun _ => true) (min (d - 1) (k - j)) = min (d - 1) (k - j) := cn_all fun _ _ => rfl
    rw [← e]
    refine cn_sub fun i hi _ => ?_
    obtain ⟨b1, b2⟩ := hb (1 + i) (by omega) (by omega)
    exact ⟨by omega, decide_eq_true (by omega)⟩
theorem su_low (k d X M : Nat) (hk : k ≤ M) : su (fun j => (if j ≤ X then 1 else 0) + min (d - 1) (k - j)) M = min M X + gk k d := by
  rw [su_add (fun j => if j ≤ X then 1 else 0) (fun j => min (d - 1) (k - j)), su_ind]
  congr 1
  exact su_stop hk fun j hj => by omega
theorem Sys.count (S : Sys N n) {k d c : Nat} (hc : 1 ≤ c) (hb : Behind N k d c) (hk : k ≤ n) : nx N c + gk k d ≤ n := by
  have h1 := S.sum c (n + k)
  have h2 : su (fun j => (if j ≤ nx N c then 1 else 0) + min (d - 1) (k - j)) (n + k) ≤ su (N c) (n + k) := su_mono fun j j1 _ => S.low hc hb j1
  rw [su_low k d (nx N c) (n + k) (by omega)] at h2
  have h3 : nx N c ≤ n := S.le_n (c - 1) 1 (Nat.le_refl _)
  omega
/-- behind a pile of more than k there is one of less than k, not far -/
theorem Sys.near (S : Sys N n) {k c : Nat} (hk1 : 1 ≤ k) (hk : k ≤ 13) (hn : 2 * n = k * (k + 1)) (hc : 1 ≤ c) (h : k + 1 ≤ nx N c) : ∃ d, 1 ≤ d ∧ d + 1 ≤ k ∧ c ≤ k * (d - 1) + d ∧ Behind N k d c ∧ nx N c + gk k d ≤ n := by
  have hkn : k ≤ n := by
    have : k * 2 ≤ k * (k + 1) := Nat.mul_le_mul_left _ (by omega)
    omega
  have hex : ∃ d, d < k ∧ 1 ≤ d ∧ (c ≤ d ∨ nx N (c - d) + 1 ≤ k) := by
    by_cases e : ∃ d, d < k ∧ 1 ≤ d ∧ (c ≤ d ∨ nx N (c - d) + 1 ≤ k)
    · exact e
    · exfalso
      have hb : Behind N k k c := fun q q1 q2 => by
        by_cases e1 : c ≤ q ∨ nx N (c - q) + 1 ≤ k
        · exact absurd ⟨q, q2, q1, e1⟩ e
        · omega
      have h1 := S.count hc hb hkn
      have h2 := gk_full ⟨k, by omega⟩
      have h3 : 2 * gk k k = k * (k - 1) := h2
      have h4 : k * (k + 1) = k * (k - 1) + 2 * k := by
        rw [← Nat.mul_comm k 2, ← Nat.mul_add]
        congr 1
        omega
      omega
  obtain ⟨d0, h0⟩ := hex
  obtain ⟨d, hd, ⟨d1, d2, d3⟩, dl⟩ := least_of (p := fun d => d < k ∧ 1 ≤ d ∧ (c ≤ d ∨ nx N (c - d) + 1 ≤ k)) d0 h0
  have hb : Behind N k d c := fun q q1 q2 => by
    by_cases e1 : c ≤ q ∨ nx N (c - q) + 1 ≤ k
    · exact absurd ⟨by omega, q1, e1⟩ (dl q q2)
    · omega
  refine ⟨d, d2, by omega, ?_, hb, S.count hc hb hkn⟩
  rcases Nat.lt_or_ge d c with l | l
  · have h1 : nx N (c - d) + 1 ≤ k := by omega
    obtain ⟨m, rfl⟩ : ∃ m, d = m + 1 := ⟨d - 1, by omega⟩
    have h2 := S.rise m (c - (m + 1)) (by omega) (by rw [show c - (m + 1) + (m + 1) = c by omega]; omega)
    have h3 : (nx N (c - (m + 1)) + 1) * m ≤ k * m := Nat.mul_le_mul_right _ h1
    rw [Nat.add_sub_cancel]
    omega
  · omega
/-- not above k from some turn on -/
theorem Sys.topK (S : Sys N n) {k c : Nat} (hk1 : 1 ≤ k) (hk : k ≤ 13) (hn : 2 * n = k * (k + 1)) (hc : 1 ≤ c) (hcc : k * k - k ≤ c) : nx N c ≤ k := by
  rcases Nat.lt_or_ge k (nx N c) with l | l
  · exfalso
    obtain ⟨d, d1, d2, d3, _⟩ := S.near hk1 hk hn hc l
    have := (sq_nums ⟨k, by omega⟩).2 (by show 2 ≤ k; omega) ⟨d, by omega⟩ d2
    have : k * (d - 1) + d + 1 ≤ k * k - k := this
    omega
  · exact l
/-- the stairs stay -/
theorem Sys.stay (S : Sys N n) {k s : Nat} (h : ∀ j, 1 ≤ j → N s j = k + 1 - j) : ∀ r j, 1 ≤ j → N (s + r) j = k + 1 - j
  | 0, j, hj => h j hj
  | r + 1, j, hj => by
    have ih := S.stay h r
    rw [show s + (r + 1) = s + r + 1 by omega, S.step _ j hj, ih (j + 1) (by omega), ih 1 (Nat.le_refl _)]
    split <;> omega
theorem cn_far {p : Nat → Bool} {a m : Nat} (h : a + 1 ≤ cn p m) : ∃ i, a ≤ i ∧ i < m ∧ p i = true := by
  by_cases e : ∃ i, a ≤ i ∧ i < m ∧ p i = true
  · exact e
  · exfalso
    rcases Nat.le_total a m with l | l
    · rw [cn_stop l fun i h1 h2 => by
        cases c : p i with
        | false => rfl
        | true => exact absurd ⟨i, h1, h2, c⟩ e] at h
      have := cn_le p a
      omega
    · have := cn_le p m
      omega
/-- behind k times k less k turns it is the stairs -/
theorem Sys.stairs (S : Sys N n) {k : Nat} (hk1 : 1 ≤ k) (hk : k ≤ 13) (hn : 2 * n = k * (k + 1)) : ∀ j, 1 ≤ j → N (k * k - k) j = k + 1 - j := by
  have hkk : k * (k + 1) = k * k + k := Nat.mul_succ k k
  have h3 : 3 * k ≤ k * k + 2 := (sq_nums ⟨k, by omega⟩).1
  have hkle : k ≤ k * k := Nat.le_mul_of_pos_right k hk1
  have hkn : k ≤ n := by omega
  -- it is enough that no row is too long
  have tri : su (fun j => k + 1 - j) k = n := by
    have h1 := tri_su ⟨k, by omega⟩
    have h2 : 2 * su (fun j => k + 1 - j) k = k * (k + 1) := h1
    omega
  have enough : (∀ j, 1 ≤ j → j ≤ k + 1 → N (k * k - k) j ≤ k + 1 - j) → ∀ j, 1 ≤ j → N (k * k - k) j = k + 1 - j := fun up => by
    have up2 : ∀ j, 1 ≤ j → N (k * k - k) j ≤ k + 1 - j := fun j hj => by
      rcases Nat.lt_or_ge (k + 1) j with l | l
      · have h1 := up (k + 1) (by omega) (Nat.le_refl _)
        have h2 := anti_le S (k * k - k) (show k + 1 ≤ j by omega)
        omega
      · exact up j hj l
    intro j hj
    have h1 := S.all (k * k - k) (n + j) (by omega)
    have h2 : su (fun j => k + 1 - j) (n + j) = su (fun j => k + 1 - j) k := su_stop (by omega) fun i hi => by omega
    exact (su_same (f := N (k * k - k)) (g := fun j => k + 1 - j) (m := n + j) (fun i i1 _ => up2 i i1) (by rw [h2, tri, h1]; exact Nat.le_refl _) j hj (by omega)).symm
  refine enough fun j hj hjk => ?_
  rcases Nat.lt_or_ge (k + 1 - j) (N (k * k - k) j) with l | l
  · exfalso
    rcases Nat.lt_or_ge j 2 with j2 | j2
    · obtain rfl : j = 1 := by omega
      have := S.topK hk1 hk hn (c := k * k - k + 1) (by omega) (by omega)
      have e : nx N (k * k - k + 1) = N (k * k - k) 1 := rfl
      omega
    · rw [S.form _ j hj, S.none 0 (show n < j + (k * k - k) by omega), Nat.zero_add] at l
      obtain ⟨e, e1, e2, e3⟩ := cn_far l
      have e3 := of_decide_eq_true e3
      obtain ⟨s, hs⟩ : ∃ s, s = k * k - k - e := ⟨_, rfl⟩
      rw [← hs] at e3
      obtain ⟨d, d1, d2, d3, hb, hcnt⟩ := S.near hk1 hk hn (c := s) (by omega) (by omega)
      rcases Nat.lt_or_ge (d + 1) k with q | q
      · have h1 : 2 * (k * (d - 1) + d) + k * (k + 1) < 2 * (k * k - k) + 2 * gk k d + 4 := gk_far ⟨k, by omega⟩ ⟨d, by omega⟩ d1 (by show d + 2 ≤ k; omega)
        omega
      · obtain rfl : d = k - 1 := by omega
        have h1 : 2 * gk k (k - 1) + 2 = k * (k - 1) := gk_near ⟨k, by omega⟩ (by show 2 ≤ k; omega)
        have h2 : k * (k - 1) = k * k - k := by rw [Nat.mul_sub, Nat.mul_one]
        have hx : nx N s = k + 1 := by omega
        have he : e = k + 1 - j := by omega
        have h5 : k * (k - 1 - 1) + (k - 1) + 1 ≤ k * k - k := (sq_nums ⟨k, by omega⟩).2 (by show 2 ≤ k; omega) ⟨k - 1, by omega⟩ (by show k - 1 + 1 ≤ k; omega)
        have hse : s + 1 ≤ k * k - k := by omega
        -- the setting at s is known
        have eq : ∀ i, 1 ≤ i → N s i = (if i ≤ k + 1 then 1 else 0) + min (k - 1 - 1) (k - i) := fun i hi => by
          refine su_same (f := fun j => (if j ≤ k + 1 then 1 else 0) + min (k - 1 - 1) (k - j)) (g := N s) (m := n + k + i) (fun j j1 _ => ?_) ?_ i hi (by omega)
          · have := S.low (by omega) hb j1
            rw [hx] at this
            exact this
          · rw [su_low k (k - 1) (k + 1) (n + k + i) (by omega), S.all s (n + k + i) (by omega)]
            omega
        have st : ∀ i, 1 ≤ i → N (s + 1) i = k + 1 - i := fun i hi => by
          rw [S.step s i hi, eq (i + 1) (by omega), eq 1 (Nat.le_refl _), if_pos (show 1 ≤ k + 1 by omega)]
          by_cases a1 : i + 1 ≤ k + 1
          · rw [if_pos a1]
            by_cases a2 : i ≤ 1 + min (k - 1 - 1) (k - 1)
            · rw [if_pos a2]
              omega
            · rw [if_neg a2]
              omega
          · rw [if_neg a1]
            by_cases a2 : i ≤ 1 + min (k - 1 - 1) (k - 1)
            · rw [if_pos a2]
              omega
            · rw [if_neg a2]
              omega
        have fin := S.stay st (k * k - k - (s + 1)) j hj
        rw [show s + 1 + (k * k - k - (s + 1)) = k * k - k by omega] at fin
        have back := S.form (k * k - k) j hj
        rw [S.none 0 (show n < j + (k * k - k) by omega), Nat.zero_add] at back
        omega
  · exact l
end

/-! ### the stairs as a setting -/
def stairsL (k : Nat) : List Int := (List.range k).map fun i : Nat => (k : Int) - (i : Int)
theorem stairsL_len (k : Nat) : (stairsL k).length = k := by
  unfold stairsL
  rw [List.length_map, List.length_range]
theorem stairsL_get {k i : Nat} (h : i < k) : (stairsL k)[i]? = some ((k : Int) - (i : Int)) := by
  unfold stairsL
  rw [List.getElem?_map, List.getElem?_range h] <;> rfl
theorem stairsL_ok : ∀ k : Fin 14, 1 ≤ k.1 → marksBy (stairsL k.1) ≠ [] ∧ turn (stairsL k.1) = stairsL k.1 := by decide +kernel
theorem stairs_at {n k : Nat} {ns : List Int} (h : IsSet n ns) (hk1 : 1 ≤ k) (hk : k ≤ 13) (hn : 2 * n = k * (k + 1)) : turnN (k * k - k) ns = stairsL k := by
  have hs : IsSet n (turnN (k * k - k) ns) := turnN_set h
  have hc : ∀ j, 1 ≤ j → cnt (turnN (k * k - k) ns) j = k + 1 - j := (sys_of h).stairs hk1 hk hn
  generalize turnN (k * k - k) ns = l at *
  have hl : l.length = k := by
    have h1 := cnt_one hs.1.pos
    have h2 := hc 1 (Nat.le_refl _)
    omega
  refine List.ext_getElem? fun i => ?_
  rcases Nat.lt_or_ge i k with q | q
  · rw [stairsL_get q]
    have g : l[i]? = some (l.getD i 0) := by
      rw [List.getD_eq_getElem?_getD, List.getElem?_eq_getElem (by omega)] <;> rfl
    rw [g]
    have h1 := (cnt_falls hs.1.falls i (k - i) (by omega)).mpr (by rw [hc (k - i) (by omega)]; omega)
    have h2 : ¬ ((k - i + 1 : Nat) : Int) ≤ l.getD i 0 := fun h => by
      have := (cnt_falls hs.1.falls i (k - i + 1) (by omega)).mp h
      rw [hc (k - i + 1) (by omega)] at this
      omega
    congr 1
    omega
  · rw [List.getElem?_eq_none (by omega), List.getElem?_eq_none (by rw [stairsL_len]; exact q)]
theorem stairs_stay {k : Nat} (hk1 : 1 ≤ k) (hk : k ≤ 13) : ∀ r, turnN r (stairsL k) = stairsL k
  | 0 => rfl
  | r + 1 => by
    have e : turn (stairsL k) = stairsL k := (stairsL_ok ⟨k, by omega⟩ hk1).2
    show turnN r (turn (stairsL k)) = stairsL k
    rw [e]
    exact stairs_stay hk1 hk r
/-- the way and the ring -/
theorem stairs_way {n k : Nat} {ns : List Int} (h : IsSet n ns) (hk1 : 1 ≤ k) (hk : k ≤ 13) (hn : 2 * n = k * (k + 1)) (n2 : n ≤ 100) : ∃ w, w ≤ k * k - k ∧ (∀ j, j < w → marksBy (turnN j ns) = []) ∧ marksBy (turnN w ns) ≠ [] ∧ turnN w ns = stairsL k ∧ Ring (turnN w ns) 1 := by
  have hkn : 1 ≤ n := by
    have : k * 2 ≤ k * (k + 1) := Nat.mul_le_mul_left _ (by omega)
    omega
  have hm : marksBy (stairsL k) ≠ [] := (stairsL_ok ⟨k, by omega⟩ hk1).1
  have ht := stairs_at h hk1 hk hn
  obtain ⟨w, _, hb, hw⟩ := way_ex h hkn n2
  have hle : w ≤ k * k - k := by
    rcases Nat.lt_or_ge (k * k - k) w with l | l
    · have := hb _ l
      rw [ht] at this
      exact absurd this hm
    · exact l
  obtain ⟨⟨d, _, hr⟩, _⟩ := round_ring (turnN_set (j := w) h) hkn n2 hw
  have hd := hr.pos
  have hper := turnN_per (ns := turnN w ns) (i := 0) (p := d) (by rw [Nat.zero_add]; exact hr.back) (k * k - k) 0
  have hge : k * k - k ≤ d * (k * k - k) := Nat.le_mul_of_pos_left _ hd
  have e : turnN w ns = stairsL k := by
    have h1 : turnN (0 + d * (k * k - k) + 0) (turnN w ns) = turnN w ns := hper
    rw [← turnN_add, show 0 + d * (k * k - k) + 0 + w = (d * (k * k - k) + w - (k * k - k)) + (k * k - k) by omega, turnN_add, ht, stairs_stay hk1 hk] at h1
    exact h1.symm
  refine ⟨w, hle, hb, hw, e, ?_⟩
  rw [e]
  exact ⟨Nat.le_refl _, stairs_stay hk1 hk 1, fun j h1 h2 => by omega⟩

/-! ### the text -/
def top (i : Nat) : Stmt := PySem.Challenge.pw_pilewheel_k10_whole_stairs.main.body.getD i (.Pass ⟨0, 0, 0, 0⟩)
abbrev s_is_setting : Stmt := top 7
abbrev s_must_be : Stmt := top 8
abbrev s_turned_by : Stmt := top 9
abbrev s_after : Stmt := top 10
abbrev s_stair_of : Stmt := top 12
abbrev s_marks_by : Stmt := top 13
abbrev s_way_of : Stmt := top 14
abbrev s_ring_by : Stmt := top 15
abbrev s_ring_of : Stmt := top 16
abbrev s_law_cell : Stmt := top 18
abbrev s_law_whole : Stmt := top 19
abbrev s_law_ints : Stmt := top 20
abbrev s_law_lists_like : Stmt := top 21
abbrev s_law_next : Stmt := top 22
abbrev s_law_fallen : Stmt := top 23
abbrev s_law_turned : Stmt := top 24
abbrev s_law_stair : Stmt := top 25
abbrev s_law_by_marks : Stmt := top 26
abbrev s_law_drawn_marks : Stmt := top 27
abbrev s_law_elder : Stmt := top 28
abbrev s_law_drawn_piles : Stmt := top 29
abbrev s_law_setting : Stmt := top 30
abbrev s_law : Stmt := top 31
structure Txt (K : PySem.W.Frag) (mg : Str → Option Value) : Prop where
  d_is_setting : DefAt K mg "is_setting" s_is_setting
  d_must_be : DefAt K mg "must_be" s_must_be
  d_turned_by : DefAt K mg "turned_by" s_turned_by
  d_after : DefAt K mg "after" s_after
  d_stair_of : DefAt K mg "stair_of" s_stair_of
  d_marks_by : DefAt K mg "marks_by" s_marks_by
  d_way_of : DefAt K mg "way_of" s_way_of
  d_ring_by : DefAt K mg "ring_by" s_ring_by
  d_ring_of : DefAt K mg "ring_of" s_ring_of
  d_law_cell : DefAt K mg "_law_cell" s_law_cell
  d_law_whole : DefAt K mg "_law_whole" s_law_whole
  d_law_ints : DefAt K mg "_law_ints" s_law_ints
  d_law_lists_like : DefAt K mg "_law_lists_like" s_law_lists_like
  d_law_next : DefAt K mg "_law_next" s_law_next
  d_law_fallen : DefAt K mg "_law_fallen" s_law_fallen
  d_law_turned : DefAt K mg "_law_turned" s_law_turned
  d_law_stair : DefAt K mg "_law_stair" s_law_stair
  d_law_by_marks : DefAt K mg "_law_by_marks" s_law_by_marks
  d_law_drawn_marks : DefAt K mg "_law_drawn_marks" s_law_drawn_marks
  d_law_elder : DefAt K mg "_law_elder" s_law_elder
  d_law_drawn_piles : DefAt K mg "_law_drawn_piles" s_law_drawn_piles
  d_law_setting : DefAt K mg "_law_setting" s_law_setting
  c_MOST : ∃ u, mg "MOST" = some u ∧ RelV (.int 100) u
  c_MOST_TURNS : ∃ u, mg "MOST_TURNS" = some u ∧ RelV (.int 100000000000000000000000000000) u
  m_bool : mg "bool" = none
  m_int : mg "int" = none
  m_isinstance : mg "isinstance" = none
  m_len : mg "len" = none
  m_list : mg "list" = none
  m_min : mg "min" = none
  m_range : mg "range" = none
  m_reversed : mg "reversed" = none
  m_sorted : mg "sorted" = none
  m_sum : mg "sum" = none
  m_tuple : mg "tuple" = none
  m_zip : mg "zip" = none

section
variable {P : Program} {w : World} {K : PySem.W.Frag} {mg : Str → Option Value} {base : Heap}
theorem sc_stair_of : FnScope ["coins", "stair"] ["coins"] (defScope s_stair_of) := ⟨rfl, rfl, rfl, by decide +kernel, rfl, by decide +kernel, by decide +kernel⟩
def sp_stair_of : Sp := fun vs H Q _ => ∃ n : Nat, vs = [.int n] ∧ 1 ≤ n ∧ n ≤ 100000 ∧ Q (.int (stair n)) H
theorem ok_stair_of (T : Txt K mg) : Cal P w K mg base CX0 1 "stair_of" ["coins"] sp_stair_of := by
  refine cal_mk T.d_stair_of sc_stair_of ?_ (fun _ _ _ _ _ _ us hl => match us, hl with | [_], _ => rfl) (fun f cdv A outer s H vs Q E hr h => ?_)
  · intro vs H Q E h
    obtain ⟨n, rfl, _⟩ := h
    rfl
  obtain ⟨n, rfl, h1, h2, q⟩ := h
  refine ⟨_, (pss_cons (ps_set (i := 1) sc_stair_of.nd rfl (Or.inl rfl) pe_int)
      (pss_cons (ps_while PassesOwn.never (pt_cmpR op_lt (pe_op op_fdiv (pe_op op_mul (pv 1) (pe_op op_add (pv 1) pe_int)) pe_int) (pv 0) (nomark _))
      (pss_one (ps_set (i := 1) sc_stair_of.nd rfl (Or.inl rfl) (pe_op op_add (pv 1) pe_int))))
      (pss_one (ps_ret (pv 1))))), ?_⟩
  refine ⟨fun m σ H' => ∃ s : Nat, σ = [some (.int n), some (.int s)] ∧ H' = H ∧ m = 2 * n + 2 - s ∧ 1 ≤ s ∧ (s - 1) * s < 2 * n, ⟨_, 1, rfl, rfl, rfl, Nat.le_refl _, by omega⟩, fun m σ H' hW => ?_⟩
  obtain ⟨s, rfl, rfl, rfl, g1, g2⟩ := hW
  have g3 : s ≤ 2 * n + 1 := by
    have := Nat.mul_le_mul_left (s - 1) g1
    omega
  have hh := half_sq s
  refine ⟨_, rfl, _, rfl, _, _, rfl, rfl, _, _, rfl, rfl, .inl ⟨by omega, by omega⟩, _, _, rfl, rfl, ⟨by decide, by decide⟩, _, rfl, _, _, rfl, rfl, _, rfl, ite2 (fun c => ?_) (fun c => ?_)⟩
  · have c' : (s : Int) * ((s : Int) + 1) / 2 < (n : Int) := of_decide_eq_true c
    have c1 : ((s * (s + 1) / 2 : Nat) : Int) < (n : Int) := c'
    have c2 : s * (s + 1) < 2 * n := by omega
    refine ⟨fun σ' H2 => ∃ s' : Nat, s' = s + 1 ∧ σ' = [some (.int n), some (.int s')] ∧ H2 = H', fun σ' H2 h => ?_, ?_⟩
    · obtain ⟨s', rfl, e1, e2⟩ := h
      exact ⟨2 * n + 2 - (s + 1), by omega, s + 1, e1, e2, rfl, by omega, by rw [Nat.add_sub_cancel]; exact c2⟩
    · exact ⟨_, rfl, _, _, rfl, rfl, s + 1, rfl, rfl, rfl⟩
  · have c' : ¬ (s : Int) * ((s : Int) + 1) / 2 < (n : Int) := fun h => c (decide_eq_true h)
    have c1 : ¬ ((s * (s + 1) / 2 : Nat) : Int) < (n : Int) := c'
    have c2 : 2 * n ≤ s * (s + 1) := by omega
    rw [← stair_uniq h1 g1 g2 c2] at q
    exact ⟨_, rfl, q⟩

end

section
variable {P : Program} {w : World} {K : PySem.W.Frag} {mg : Str → Option Value} {base : Heap}
theorem sc_marks_by : FnScope ["piles", "stair", "found", "k", "pile", "mark"] ["piles"] (defScope s_marks_by) := ⟨rfl, rfl, rfl, by decide +kernel, rfl, by decide +kernel, by decide +kernel⟩
theorem marksAt_len (S : Nat) (ns : List Int) : (marksAt S ns).length = S := by
  unfold marksAt
  rw [List.length_map, List.length_range]
theorem marksAt_get {S : Nat} {ns : List Int} {k : Nat} (h : k < S) : (marksAt S ns)[k]? = some (ns.getD k 0 - ((S : Int) - 1 - (k : Int))) := by
  unfold marksAt
  rw [List.getElem?_map, List.getElem?_range h] <;> rfl
def sp_marks_by : Sp := fun vs H Q _ => ∃ (a : Addr) (ns : List Int), vs = [.ref a] ∧ IL H a ns ∧ Good ns ∧ ns.sum ≤ 100 ∧ NL Q H (marksBy ns)
theorem ok_marks_by (T : Txt K mg) : Cal P w K mg base CX0 2 "marks_by" ["piles"] sp_marks_by := by
  have C_stair_of := ok_stair_of (P := P) (w := w) (base := base) T
  refine cal_mk T.d_marks_by sc_marks_by ?_ (fun _ _ _ _ _ _ us hl => match us, hl with | [_], _ => rfl) (fun f cdv A outer s H vs Q E hr h => ?_)
  · intro vs H Q E h
    obtain ⟨a, ns, rfl, _⟩ := h
    rfl
  obtain ⟨a, ns, rfl, hS, hg, hs, q⟩ := h
  have hll := len_le_sum hg.pos
  have hne := List.length_pos_iff.mpr hg.ne
  refine ⟨_, (pss_cons (ps_set (i := 1) sc_marks_by.nd rfl (Or.inl rfl) (pe_callF C_stair_of (hr.mono (by decide)) (pa_cons (pe_callB (cr_sum rfl) (by rfl) T.m_sum (by decide +kernel) (pa_cons (pv 0) pa_nil)) pa_nil)))
      (pss_cons (ps_if (pt_cmpR op_gt (pe_callB call_len_seq (by rfl) T.m_len PySem.boot_len (pa_cons (pv 0) pa_nil)) (pv 1) (nomark _))
      (pss_one (ps_ret (pe_lst pa_nil))) pss_nil)
      (pss_cons (ps_set (i := 2) sc_marks_by.nd rfl (Or.inl rfl) (pe_lst pa_nil))
      (pss_cons (ps_for PassesOwn.never rfl (pi_range1 (by rfl) T.m_range (pa_cons (pv 1) pa_nil)) (pg_name (i := 3) sc_marks_by.nd rfl (Or.inl rfl))
      (pss_cons (ps_set (i := 4) sc_marks_by.nd rfl (Or.inl rfl) pe_int)
      (pss_cons (ps_if (pt_cmpR op_lt (pv 3) (pe_callB call_len_seq (by rfl) T.m_len PySem.boot_len (pa_cons (pv 0) pa_nil)) (nomark _))
      (pss_one (ps_set (i := 4) sc_marks_by.nd rfl (Or.inl rfl) (pe_ix ix_list (pv 0) (pv 3) (fun _ _ => rfl)))) pss_nil)
      (pss_cons (ps_set (i := 5) sc_marks_by.nd rfl (Or.inl rfl) (pe_op op_sub (pv 4) (pe_op op_sub (pe_op op_sub (pv 1) pe_int) (pv 3))))
      (pss_cons (ps_if (PW.pt (pw_or (pt_cmpR op_lt (pv 5) pe_int (nomark _)) (pw_or1 (pt_cmpR op_gt (pv 5) pe_int (nomark _)))))
      (pss_one (ps_ret (pe_lst pa_nil))) pss_nil)
      (pss_one (ps_expr (pe_bm PySem.F.plainAttrs_list PySem.F.slot_list_append PySem.F.type_list_append mt_append (pv 2) (pa_cons (pv 5) pa_nil)))))))))
      (pss_one (ps_ret (pv 2))))))), ?_⟩
  obtain ⟨n, en⟩ : ∃ n : Nat, ns.sum = n := ⟨ns.sum.toNat, by omega⟩
  refine ⟨_, rfl, a, ns, rfl, sq hS, n, congrArg (fun z => [V.int z]) en, by omega, by omega, ?_⟩
  have hst := stair_le (n := n) (by omega) (b := 14) (by omega) (by omega)
  have hst1 := (stair_spec (n := n) (by omega)).1
  unfold marksBy at q
  rw [en, Int.toNat_natCast] at q
  generalize stair n = S at *
  refine ⟨_, rfl, a, _, rfl, .inl (sq hS), _, rfl, _, _, rfl, rfl, _, rfl, ite2 (fun c => ?_) (fun c => ?_)⟩
  · have c' : (S : Int) < ((ns.map V.int).length : Int) := of_decide_eq_true c
    rw [nlen] at c'
    rw [if_pos (by omega)] at q
    exact ⟨Nat.zero_le _, fun p np => q _ p (same_new np _) np upd_same⟩
  · have c' : ¬ (S : Int) < ((ns.map V.int).length : Int) := fun h => c (decide_eq_true h)
    rw [nlen] at c'
    rw [if_neg (by omega)] at q
    refine ⟨Nat.zero_le _, fun D nD => ⟨_, rfl, S, rfl, by omega, by omega, for_range (lo := 0) (n := (S : Int).toNat) (fun i σ H' => ∃ y1 y2 y3, σ = [some (.ref a), some (.int S), some (.ref D), y1, y2, y3] ∧ Same H H' ∧ IL H' D ((marksAt S ns).take i) ∧ ∀ m ∈ (marksAt S ns).take i, 0 ≤ m ∧ m ≤ 1) ⟨none, none, none, rfl, same_new nD _, upd_same, fun m hm => by cases hm⟩ ?_ ?_⟩⟩
    · intro i σ H' hi h
      obtain ⟨y1, y2, y3, rfl, sm, eD, hall⟩ := h
      have hi : i < S := by omega
      have gm := marksAt_get (ns := ns) hi
      have bad : (¬ (0 ≤ ns.getD i 0 - ((S : Int) - 1 - (i : Int)) ∧ ns.getD i 0 - ((S : Int) - 1 - (i : Int)) ≤ 1)) → NL Q H [] := fun hb => by
        rw [if_neg] at q
        · exact q
        · intro e
          have := isBits_iff.mp e _ (List.mem_of_getElem? gm)
          omega
      -- pile
      have hlm : ((marksAt S ns).take i).length = i := by
        rw [List.length_take, marksAt_len]
        omega
      have hnext : ∀ m ∈ (marksAt S ns).take i ++ [ns.getD i 0 - ((S : Int) - 1 - (i : Int))], 0 ≤ ns.getD i 0 - ((S : Int) - 1 - (i : Int)) → ns.getD i 0 - ((S : Int) - 1 - (i : Int)) ≤ 1 → 0 ≤ m ∧ m ≤ 1 := fun m hm h0 h1 => by
        rcases List.mem_append.mp hm with hm | hm
        · exact hall m hm
        · rw [List.mem_singleton.mp hm]
          exact ⟨h0, h1⟩
      refine ⟨_, rfl, _, rfl, a, _, rfl, .inl (sq (sm _ _ hS)), _, _, rfl, rfl, _, rfl, ite2 (fun c => ?p1) (fun c => ?p2)⟩
      case' p1 =>
        have ci : (0 : Int) + (i : Int) < ((ns.map V.int).length : Int) := of_decide_eq_true c
        rw [nlen] at ci
        have hil : i < ns.length := by omega
        have gi : ns[i]? = some ns[i] := List.getElem?_eq_getElem hil
        have ep : ns[i] = ns.getD i 0 := by rw [List.getD_eq_getElem?_getD, gi] <;> rfl
        refine ⟨_, rfl, _, rfl, a, _, _, .int ns[i], rfl, rfl, sq (sm _ _ hS), at_of (j := i) (by omega) (int_get gi), ?_⟩
      case' p2 =>
        have ci : ¬ (0 : Int) + (i : Int) < ((ns.map V.int).length : Int) := fun h => c (decide_eq_true h)
        rw [nlen] at ci
        have ep : (0 : Int) = ns.getD i 0 := by rw [List.getD_eq_getElem?_getD, List.getElem?_eq_none (by omega)] <;> rfl
      all_goals
        refine ⟨_, rfl, _, rfl, _, _, rfl, rfl, _, rfl, _, _, rfl, rfl, _, _, rfl, rfl, ?_⟩
        refine ⟨_, rfl, _, _, rfl, rfl, _, rfl, ite2 (fun d => ?_) (fun d => ⟨_, rfl, _, _, rfl, rfl, _, rfl, ite2 (fun e => ?_) (fun e => ?_)⟩)⟩
        · refine ⟨Nat.zero_le _, fun p np => bad ?_ _ p (sm.trans (same_new np _)) (sm.free np) upd_same⟩
          intro hb
          have d1 := of_decide_eq_true d
          first
            | (have d2 : ns[i] - ((S : Int) - 1 - (0 + (i : Int))) < 0 := d1; omega)
            | (have d2 : (0 : Int) - ((S : Int) - 1 - (0 + (i : Int))) < 0 := d1; omega)
        · refine ⟨Nat.zero_le _, fun p np => bad ?_ _ p (sm.trans (same_new np _)) (sm.free np) upd_same⟩
          intro hb
          have d1 := of_decide_eq_true e
          first
            | (have d2 : (1 : Int) < ns[i] - ((S : Int) - 1 - (0 + (i : Int))) := d1; omega)
            | (have d2 : (1 : Int) < (0 : Int) - ((S : Int) - 1 - (0 + (i : Int))) := d1; omega)
        · have ev : ∀ z : Int, z = ns.getD i 0 → z - ((S : Int) - 1 - (0 + (i : Int))) = ns.getD i 0 - ((S : Int) - 1 - (i : Int)) := fun z hz => by omega
          have h0 : 0 ≤ ns.getD i 0 - ((S : Int) - 1 - (i : Int)) := by
            have d1 := fun h => d (decide_eq_true h)
            first
              | (have d2 : ¬ ns[i] - ((S : Int) - 1 - (0 + (i : Int))) < 0 := d1; omega)
              | (have d2 : ¬ (0 : Int) - ((S : Int) - 1 - (0 + (i : Int))) < 0 := d1; omega)
          have h1 : ns.getD i 0 - ((S : Int) - 1 - (i : Int)) ≤ 1 := by
            have d1 := fun h => e (decide_eq_true h)
            first
              | (have d2 : ¬ (1 : Int) < ns[i] - ((S : Int) - 1 - (0 + (i : Int))) := d1; omega)
              | (have d2 : ¬ (1 : Int) < (0 : Int) - ((S : Int) - 1 - (0 + (i : Int))) := d1; omega)
          refine ⟨_, rfl, .inl ⟨rfl, _, sq eD⟩, _, rfl, D, _, _, rfl, rfl, eD, by rw [nlen, hlm]; exact smallL (by omega), ?_⟩
          refine ⟨_, _, _, rfl, same_mut sm nD _, ?_, fun m hm => ?_⟩
          · show upd _ _ _ _ = _
            rw [upd_same, take_snoc gm, List.map_append, ← ev _ ep] <;> rfl
          · rw [take_snoc gm] at hm
            exact hnext m hm h0 h1
    · intro σ H' h
      obtain ⟨y1, y2, y3, rfl, sm, eD, hall⟩ := h
      rw [Int.toNat_natCast, List.take_of_length_le (by rw [marksAt_len]; exact Nat.le_refl _)] at eD hall
      rw [if_pos (isBits_iff.mpr fun m hm => by have := hall m hm; omega)] at q
      exact ⟨_, rfl, q H' D sm nD eD⟩

end

section
variable {P : Program} {w : World} {K : PySem.W.Frag} {mg : Str → Option Value} {base : Heap}
theorem sc_is_setting : FnScope ["piles", "k"] ["piles"] (defScope s_is_setting) := ⟨rfl, rfl, rfl, by decide +kernel, rfl, by decide +kernel, by decide +kernel⟩
def sp_is_setting : Sp := fun vs H Q _ => ∃ (a : Addr) (ns : List Int), vs = [.ref a] ∧ IL H a ns ∧ ns.length ≤ 1000 ∧ ∀ b : Bool, (b = true ↔ Good ns ∧ ns.sum ≤ 100) → Q (.bl b) H
theorem ok_is_setting (T : Txt K mg) : Cal P w K mg base CX0 1 "is_setting" ["piles"] sp_is_setting := by
  refine cal_mk T.d_is_setting sc_is_setting ?_ (fun _ _ _ _ _ _ us hl => match us, hl with | [_], _ => rfl) (fun f cdv A outer s H vs Q E hr h => ?_)
  · intro vs H Q E h
    obtain ⟨a, ns, rfl, _⟩ := h
    rfl
  obtain ⟨a, ns, rfl, hS, hl, q⟩ := h
  refine ⟨_, (pss_cons (ps_if (PW.pt (pw_or (pt_cmpR op_lt (pe_callB call_len_seq (by rfl) T.m_len PySem.boot_len (pa_cons (pv 0) pa_nil)) pe_int (nomark _)) (pw_or1 (pt_cmpR op_gt (pe_callB (cr_sum rfl) (by rfl) T.m_sum (by decide +kernel) (pa_cons (pv 0) pa_nil)) (pe_globX T.c_MOST) (nomark _)))))
      (pss_one (ps_ret pe_bl)) pss_nil)
      (pss_cons (ps_for PassesOwn.never rfl (pi_range1 (by rfl) T.m_range (pa_cons (pe_callB call_len_seq (by rfl) T.m_len PySem.boot_len (pa_cons (pv 0) pa_nil)) pa_nil)) (pg_name (i := 1) sc_is_setting.nd rfl (Or.inl rfl))
      (pss_cons (ps_if (pt_cmpR op_lt (pe_ix ix_list (pv 0) (pv 1) (fun _ _ => rfl)) pe_int (nomark _))
      (pss_one (ps_ret pe_bl)) pss_nil)
      (pss_one (ps_if (PW.pt (pw_and (pt_cmpR op_gt (pv 1) pe_int (nomark _)) (pw_and1 (pt_cmpR op_gt (pe_ix ix_list (pv 0) (pv 1) (fun _ _ => rfl)) (pe_ix ix_list (pv 0) (pe_op op_sub (pv 1) pe_int) (fun _ _ => rfl)) (nomark _)))))
      (pss_one (ps_ret pe_bl)) pss_nil))))
      (pss_one (ps_ret pe_bl)))), ?_⟩
  have no : (¬ (Good ns ∧ ns.sum ≤ 100)) → Q (.bl false) H := fun h => q false ⟨fun z => (by cases z), fun z => absurd z h⟩
  refine ⟨_, rfl, a, _, rfl, .inl (sq hS), _, _, rfl, rfl, _, rfl, ite2 (fun c => ?_) (fun c => ⟨_, rfl, a, ns, rfl, sq hS, _, _, rfl, rfl, _, rfl, ite2 (fun c2 => ?_) (fun c2 => ?_)⟩)⟩
  · refine no fun h => ?_
    have c' : ((ns.map V.int).length : Int) < 1 := of_decide_eq_true c
    rw [nlen] at c'
    have := List.length_pos_iff.mpr h.1.ne
    omega
  · refine no fun h => ?_
    have c' : (100 : Int) < ns.sum := of_decide_eq_true c2
    omega
  · have c1' : ¬ ((ns.map V.int).length : Int) < 1 := fun h => c (decide_eq_true h)
    have c2' : ¬ (100 : Int) < ns.sum := fun h => c2 (decide_eq_true h)
    rw [nlen] at c1'
    refine ⟨_, rfl, a, _, rfl, .inl (sq hS), _, rfl, by rw [nlen]; omega, by rw [nlen]; omega, for_range (lo := 0) (n := ((ns.map V.int).length : Int).toNat) (fun i σ H' => ∃ y, σ = [some (.ref a), y] ∧ H' = H ∧ Adj ns i) ⟨none, rfl, rfl, fun j hj => by omega⟩ ?_ ?_⟩
    · intro i σ H' hi h
      obtain ⟨y, rfl, rfl, ha⟩ := h
      rw [nlen] at hi
      have hi : i < ns.length := by omega
      have gi : ns[i]? = some ns[i] := List.getElem?_eq_getElem hi
      have ai : atI (ns.map V.int) (0 + (i : Int)) = some (.int ns[i]) := at_of (j := i) (by omega) (int_get gi)
      refine ⟨_, rfl, _, rfl, a, _, _, .int ns[i], rfl, rfl, sq hS, ai, _, _, rfl, rfl, _, rfl, ite2 (fun d => ?_) (fun d => ?_)⟩
      · refine no fun h => ?_
        have d' : ns[i] < 1 := of_decide_eq_true d
        have := ((good_adj.mp h.1).2 i hi _ gi).1
        omega
      · have d' : ¬ ns[i] < 1 := fun h => d (decide_eq_true h)
        have more : (∀ y, 0 < i → ns[i - 1]? = some y → ns[i] ≤ y) → Adj ns (i + 1) := fun hy j hj x hx => by
          rcases Nat.lt_or_ge j i with l | l
          · exact ha j l x hx
          · obtain rfl : j = i := by omega
            obtain rfl : ns[j] = x := Option.some.inj (gi.symm.trans hx)
            exact ⟨by omega, hy⟩
        refine ⟨_, rfl, _, _, rfl, rfl, _, rfl, ite2 (fun e => ?_) (fun e => ?_)⟩
        · have e' : (0 : Int) < 0 + (i : Int) := of_decide_eq_true e
          have gp : ns[i - 1]? = some (ns[i - 1]'(by omega)) := List.getElem?_eq_getElem (by omega)
          refine ⟨_, rfl, _, rfl, a, _, _, .int ns[i], rfl, rfl, sq hS, ai, _, rfl, _, rfl, _, _, rfl, rfl, a, _, _, .int (ns[i - 1]'(by omega)), rfl, rfl, sq hS, at_of (j := i - 1) (by omega) (int_get gp), _, _, rfl, rfl, _, rfl, ite2 (fun f => ?_) (fun f => ?_)⟩
          · refine no fun h => ?_
            have f' : ns[i - 1]'(by omega) < ns[i] := of_decide_eq_true f
            have := ((good_adj.mp h.1).2 i hi _ gi).2 _ (by omega) gp
            omega
          · have f' : ¬ ns[i - 1]'(by omega) < ns[i] := fun h => f (decide_eq_true h)
            refine ⟨_, rfl, rfl, more fun y _ hy => ?_⟩
            rw [gp] at hy
            have := Option.some.inj hy
            omega
        · have e' : ¬ (0 : Int) < 0 + (i : Int) := fun h => e (decide_eq_true h)
          exact ⟨_, rfl, rfl, more fun y h0 _ => by omega⟩
    · intro σ H' h
      obtain ⟨y, rfl, rfl, ha⟩ := h
      rw [nlen, Int.toNat_natCast] at ha
      exact q true ⟨fun _ => ⟨good_adj.mpr ⟨fun e => by rw [e] at c1'; exact c1' (by decide), ha⟩, by omega⟩, fun _ => rfl⟩

end

section
variable {P : Program} {w : World} {K : PySem.W.Frag} {mg : Str → Option Value} {base : Heap}
theorem sc_must_be : FnScope ["piles"] ["piles"] (defScope s_must_be) := ⟨rfl, rfl, rfl, by decide +kernel, rfl, by decide +kernel, by decide +kernel⟩
/-- of a setting nothing is refused -/
def sp_must_be : Sp := fun vs H Q _ => ∃ (a : Addr) (ns : List Int), vs = [.ref a] ∧ IL H a ns ∧ Good ns ∧ ns.sum ≤ 100 ∧ Q .non H
theorem Good.le100 {ns : List Int} (h : Good ns) (h2 : ns.sum ≤ 100) : ns.length ≤ 100 := by
  have := len_le_sum h.pos
  omega
theorem ok_must_be (T : Txt K mg) : Cal P w K mg base CX0 2 "must_be" ["piles"] sp_must_be := by
  have C_is_setting := ok_is_setting (P := P) (w := w) (base := base) T
  refine cal_mk T.d_must_be sc_must_be ?_ (fun _ _ _ _ _ _ us hl => match us, hl with | [_], _ => rfl) (fun f cdv A outer s H vs Q E hr h => ?_)
  · intro vs H Q E h
    obtain ⟨a, ns, rfl, _⟩ := h
    rfl
  obtain ⟨a, ns, rfl, hS, hg, hs, q⟩ := h
  have hl := hg.le100 hs
  refine ⟨_, (pss_one (ps_if (pt_not (pt_val (pe_callF C_is_setting (hr.mono (by decide)) (pa_cons (pv 0) pa_nil))))
      (pss_one ps_never) pss_nil)), ?_⟩
  refine ⟨_, rfl, a, ns, rfl, hS, by omega, fun b hb => ?_⟩
  obtain rfl : b = true := hb.mpr ⟨hg, hs⟩
  exact ⟨true, rfl, q⟩

end

section
variable {P : Program} {w : World} {K : PySem.W.Frag} {mg : Str → Option Value} {base : Heap}
theorem sc_turned_by : FnScope ["piles", "rest", "pile", "fresh", "at"] ["piles"] (defScope s_turned_by) := ⟨rfl, rfl, rfl, by decide +kernel, rfl, by decide +kernel, by decide +kernel⟩
def sp_turned_by : Sp := fun vs H Q _ => ∃ (a : Addr) (ns : List Int), vs = [.ref a] ∧ IL H a ns ∧ ns.length ≤ 1000 ∧ NL Q H (turn ns)
theorem ok_turned_by (T : Txt K mg) : Cal P w K mg base CX0 1 "turned_by" ["piles"] sp_turned_by := by
  refine cal_mk T.d_turned_by sc_turned_by ?_ (fun _ _ _ _ _ _ us hl => match us, hl with | [_], _ => rfl) (fun f cdv A outer s H vs Q E hr h => ?_)
  · intro vs H Q E h
    obtain ⟨a, ns, rfl, _⟩ := h
    rfl
  obtain ⟨a, ns, rfl, hS, hl, q⟩ := h
  refine ⟨_, (pss_cons (ps_setLc (i := 1) (own := [("pile", 2)]) (g := gName 2) rfl sc_turned_by.nd rfl rfl (sw_true rfl rfl rfl (by decide +kernel)) (pi_list (pv 0)) (blkOk_by (own := [("pile", 2)]) (N := ["piles", "rest", "pile", "fresh", "at"]) (sc := defScope s_turned_by) (by decide +kernel)) (fun _ _ _ _ _ => pg_name (i := 2) sc_turned_by.nd rfl (Or.inl rfl)) (fun _ _ _ _ _ => (pts_one (pt_cmpR op_gt (pv 2) pe_int (nomark _)))) (fun _ _ _ _ _ => (pe_op op_sub (pv 2) pe_int)))
      (pss_cons (ps_set (i := 3) sc_turned_by.nd rfl (Or.inl rfl) (pe_callB call_len_seq (by rfl) T.m_len PySem.boot_len (pa_cons (pv 0) pa_nil)))
      (pss_cons (ps_set (i := 4) sc_turned_by.nd rfl (Or.inl rfl) pe_int)
      (pss_cons (ps_while PassesOwn.never (PW.pt (pw_and (pt_cmpR op_lt (pv 4) (pe_callB call_len_seq (by rfl) T.m_len PySem.boot_len (pa_cons (pv 1) pa_nil)) (nomark _)) (pw_and1 (pt_cmpR op_gt (pe_ix ix_list (pv 1) (pv 4) (fun _ _ => rfl)) (pv 3) (nomark _)))))
      (pss_one (ps_set (i := 4) sc_turned_by.nd rfl (Or.inl rfl) (pe_op op_add (pv 4) pe_int))))
      (pss_cons (ps_expr (pe_bm PySem.F.plainAttrs_list PySem.F.slot_list_insert PySem.F.type_list_insert mt_insert (pv 1) (pa_cons (pv 4) (pa_cons (pv 3) pa_nil))))
      (pss_one (ps_ret (pv 1)))))))), ?_⟩
  refine ⟨_, rfl, a, rfl, ⟨_, sq hS⟩, fun D nD => lc_list (K := K) (a := a) (xs := ns.map V.int) (fun i H' => Same H H' ∧ IL H' D (down1 (ns.take i))) ⟨same_new nD _, upd_same⟩ (fun i H' _ h => sq (h.1 _ _ hS)) ?_ ?_⟩
  · intro i x H' hx h
    obtain ⟨z, hz, rfl⟩ := get_int hx
    obtain ⟨sm, eD⟩ := h
    refine ⟨rfl, .int z, rfl, _, _, rfl, rfl, _, rfl, ?_⟩
    have ed : down1 (ns.take (i + 1)) = down1 (ns.take i) ++ (if z > 1 then [z - 1] else []) := by
      rw [take_snoc hz]
      unfold down1
      rw [List.filter_append, List.map_append]
      congr 1
      by_cases c : z > 1
      · rw [if_pos c, List.filter_cons, if_pos (decide_eq_true c)] <;> rfl
      · rw [if_neg c, List.filter_cons, if_neg (by simp only [decide_eq_true_eq]; exact c)] <;> rfl
    rw [ed]
    refine ite2 (fun c => ?_) (fun c => ?_)
    · have c' : z > 1 := of_decide_eq_true c
      rw [if_pos c']
      refine ⟨.int z, rfl, _, _, rfl, rfl, _, eD, ?_, same_mut sm nD _, ?_⟩
      · rw [nlen]
        have := down1_length (ns.take i)
        rw [List.length_take] at this
        exact smallL (by omega)
      · show upd _ _ _ _ = _
        rw [upd_same, List.map_append] <;> rfl
    · have c' : ¬ z > 1 := fun h => c (decide_eq_true h)
      rw [if_neg c', List.append_nil]
      exact ⟨sm, eD⟩
  · intro H1 h
    obtain ⟨sm, eD⟩ := h
    rw [nlen, List.take_length] at eD
    have hdl := down1_length ns
    refine ⟨_, rfl, a, _, rfl, .inl (sq (sm _ _ hS)), ?_⟩
    rw [nlen]
    generalize hrs : down1 ns = rs at *
    refine ⟨fun m σ H' => ∃ j : Nat, σ = [some (.ref a), some (.ref D), none, some (.int ns.length), some (.int j)] ∧ H' = H1 ∧ m = rs.length - j ∧ j ≤ rs.length ∧ ∀ i y, i < j → rs[i]? = some y → y > (ns.length : Int),
      ⟨_, 0, rfl, rfl, rfl, Nat.zero_le _, fun i y h => by omega⟩, fun m σ H' hW => ?_⟩
    obtain ⟨j, rfl, rfl, rfl, hj, hall⟩ := hW
    have fin : (∀ y, rs[j]? = some y → ¬ y > (ns.length : Int)) → NL Q H (rs.take j ++ [(ns.length : Int)] ++ rs.drop j) := fun h2 => by
      have := insD_at hj hall h2
      unfold turn at q
      rw [hrs, this] at q
      exact q
    have out : (∀ y, rs[j]? = some y → ¬ y > (ns.length : Int)) → Q (.ref D) (upd H' D (.lst ((rs.map V.int).take (j : Int).toNat ++ [V.int ns.length] ++ (rs.map V.int).drop (j : Int).toNat))) := fun h2 => by
      refine fin h2 _ D (same_mut sm nD _) nD ?_
      show upd _ _ _ _ = _
      rw [upd_same, Int.toNat_natCast, List.map_append, List.map_append, List.map_take, List.map_drop] <;> rfl
    refine ⟨_, rfl, _, rfl, D, _, rfl, .inl (sq eD), _, _, rfl, rfl, _, rfl, ite2 (fun c => ?_) (fun c => ?_)⟩
    · have c' : (j : Int) < ((rs.map V.int).length : Int) := of_decide_eq_true c
      rw [nlen] at c'
      have hjl : j < rs.length := by omega
      have gj : rs[j]? = some rs[j] := List.getElem?_eq_getElem hjl
      refine ⟨_, rfl, _, rfl, D, _, _, .int rs[j], rfl, rfl, sq eD, at_of (j := j) rfl (int_get gj), _, rfl, _, _, rfl, rfl, _, rfl, ite2 (fun d => ?_) (fun d => ?_)⟩
      · have d' : (ns.length : Int) < rs[j] := of_decide_eq_true d
        refine ⟨fun σ' H2 => ∃ j' : Nat, j' = j + 1 ∧ σ' = [some (.ref a), some (.ref D), none, some (.int ns.length), some (.int j')] ∧ H2 = H', fun σ' H2 h => ?_, ?_⟩
        · obtain ⟨j', rfl, e1, e2⟩ := h
          refine ⟨rs.length - (j + 1), by omega, j + 1, e1, e2, rfl, by omega, fun i y hi hy => ?_⟩
          rcases Nat.lt_or_ge i j with l | l
          · exact hall i y l hy
          · obtain rfl : i = j := by omega
            rw [gj] at hy
            have := Option.some.inj hy
            omega
        · exact ⟨_, rfl, _, _, rfl, rfl, j + 1, rfl, rfl, rfl⟩
      · have d' : ¬ (ns.length : Int) < rs[j] := fun h => d (decide_eq_true h)
        refine ⟨_, rfl, Or.inl ⟨rfl, _, sq eD⟩, _, rfl, _, rfl, D, rs.map V.int, _, _, rfl, rfl, eD, by rw [nlen]; exact smallL (by omega), by omega, by omega, ?_⟩
        refine ⟨_, rfl, out fun y hy => ?_⟩
        rw [gj] at hy
        have := Option.some.inj hy
        omega
    · have c' : ¬ (j : Int) < ((rs.map V.int).length : Int) := fun h => c (decide_eq_true h)
      rw [nlen] at c'
      refine ⟨_, rfl, Or.inl ⟨rfl, _, sq eD⟩, _, rfl, _, rfl, D, rs.map V.int, _, _, rfl, rfl, eD, by rw [nlen]; exact smallL (by omega), by omega, by omega, ?_⟩
      refine ⟨_, rfl, out fun y hy => ?_⟩
      have := (List.getElem?_eq_some_iff.mp hy).1
      omega

end

section
variable {P : Program} {w : World} {K : PySem.W.Frag} {mg : Str → Option Value} {base : Heap}
theorem sc_ring_by : FnScope ["first", "found", "here"] ["first"] (defScope s_ring_by) := ⟨rfl, rfl, rfl, by decide +kernel, rfl, by decide +kernel, by decide +kernel⟩
def sp_ring_by : Sp := fun vs H Q _ => ∃ (a : Addr) (ns : List Int) (n : Int) (d : Nat), vs = [.ref a] ∧ IL H a ns ∧ IsSet n ns ∧ n ≤ 100 ∧ Ring ns d ∧ d ≤ 100000 ∧ NLL Q H (ringL d ns)
theorem ok_ring_by (T : Txt K mg) : Cal P w K mg base CX0 2 "ring_by" ["first"] sp_ring_by := by
  have C_turned_by := ok_turned_by (P := P) (w := w) (base := base) T
  refine cal_mk T.d_ring_by sc_ring_by ?_ (fun _ _ _ _ _ _ us hl => match us, hl with | [_], _ => rfl) (fun f cdv A outer s H vs Q E hr h => ?_)
  · intro vs H Q E h
    obtain ⟨a, ns, n, d, rfl, _⟩ := h
    rfl
  obtain ⟨a, ns, n, d, rfl, hS, hset, hn, hring, hd, q⟩ := h
  have hlen := hset.len
  refine ⟨_, (pss_cons (ps_set (i := 1) sc_ring_by.nd rfl (Or.inl rfl) (pe_lst (pa_cons (pe_callTy (T := "list") call_list_of (by rfl) T.m_list (by decide +kernel) (pa_cons (pv 0) pa_nil)) pa_nil)))
      (pss_cons (ps_set (i := 2) sc_ring_by.nd rfl (Or.inl rfl) (pe_callF C_turned_by (hr.mono (by decide)) (pa_cons (pv 0) pa_nil)))
      (pss_cons (ps_while PassesOwn.never (pt_cmpR (op_neD hr.units) (pv 2) (pe_ix ix_list (pv 1) pe_int (fun _ _ => rfl)) (nomark _))
      (pss_cons (ps_expr (pe_bm PySem.F.plainAttrs_list PySem.F.slot_list_append PySem.F.type_list_append mt_append (pv 1) (pa_cons (pv 2) pa_nil)))
      (pss_one (ps_set (i := 2) sc_ring_by.nd rfl (Or.inl rfl) (pe_callF C_turned_by (hr.mono (by decide)) (pa_cons (pv 2) pa_nil))))))
      (pss_one (ps_ret (pv 1)))))), ?_⟩
  -- found = [list(first)]
  refine ⟨_, rfl, a, _, rfl, .inl (sq hS), fun p0 n0 => ⟨(by show 1 ≤ sizeLine; decide), fun F nF => ?_⟩⟩
  have s0 := same_new n0 (.lst (ns.map V.int))
  have sF := same_new nF (.lst [V.ref p0])
  have e0 : IL (upd (upd H p0 (.lst (ns.map V.int))) F (.lst [V.ref p0])) p0 ns := sF p0 (.lst (ns.map V.int)) upd_same
  have eF : (upd (upd H p0 (.lst (ns.map V.int))) F (.lst [V.ref p0])) F = some (.lst [V.ref p0]) := upd_same
  have n0F : p0 ≠ F := ne_of_none upd_same nF
  have smA := s0.trans sF
  have nF' : H F = none := s0.free nF
  generalize upd (upd H p0 (.lst (ns.map V.int))) F (.lst [V.ref p0]) = H1 at *
  -- here
  refine ⟨_, rfl, a, ns, rfl, smA _ _ hS, by omega, fun H2 h sm2 nh eh => ?_⟩
  refine ⟨fun m σ H' => ∃ (j : Nat) (as : List Addr) (b : Addr), σ = [some (.ref a), some (.ref F), some (.ref b)] ∧ Same H H' ∧ LL H' F (p0 :: as) (ringL j ns) ∧ (∀ c ∈ p0 :: as, H c = none ∧ c ≠ F) ∧ IL H' b (turnN j ns) ∧ H b = none ∧ b ≠ F ∧ 1 ≤ j ∧ j ≤ d ∧ m = d - j,
    ⟨_, 1, [], h, rfl, smA.trans sm2, ⟨sm2 _ _ eF, sm2 _ _ e0, trivial⟩, fun c hc => by rw [List.mem_singleton.mp hc]; exact ⟨n0, n0F⟩, eh, smA.free nh, (ne_of_none eF nh).symm, Nat.le_refl _, hring.pos, rfl⟩, fun m σ H' hW => ?_⟩
  obtain ⟨j, as, b, rfl, sm, ⟨eF', hLL⟩, has, eb, nb, nbF, j1, jd, rfl⟩ := hW
  obtain ⟨x, hx, ex⟩ := hLL.get (i := 0) (a := p0) rfl
  have hx0 : x = ns := by
    obtain ⟨k, rfl⟩ : ∃ k, j = k + 1 := ⟨j - 1, by omega⟩
    have h0 : (ringL (k + 1) ns)[0]? = some ns := by
      unfold ringL
      rw [List.getElem?_map, List.getElem?_range (by omega)] <;> rfl
    rw [h0] at hx
    exact (Option.some.inj hx).symm
  rw [hx0] at ex
  have hal := hLL.len
  rw [ringL_len] at hal
  refine ⟨_, rfl, _, rfl, F, _, _, .ref p0, rfl, rfl, sq eF', atI_nat (j := 0) rfl, _, _, dp_ints (sq eb), dp_ints (sq ex), sh_ints _, sh_ints _, _, rfl, ite2 (fun c => ?_) (fun c => ?_)⟩
  · have hne : turnN j ns ≠ ns := fun e => by
      rw [eqv_ints, decide_eq_true e] at c
      cases c
    have hjd : j < d := by
      rcases Nat.lt_or_ge j d with l | l
      · exact l
      · obtain rfl : j = d := by omega
        exact absurd hring.back hne
    refine ⟨fun σ' H2 => ∃ (j' : Nat) (as : List Addr) (b : Addr), j' = j + 1 ∧ σ' = [some (.ref a), some (.ref F), some (.ref b)] ∧ Same H H2 ∧ LL H2 F (p0 :: as) (ringL j' ns) ∧ (∀ c ∈ p0 :: as, H c = none ∧ c ≠ F) ∧ IL H2 b (turnN j' ns) ∧ H b = none ∧ b ≠ F, fun σ' H2 h => ?_, ?_⟩
    · obtain ⟨j', as, b, rfl, e1, e2, e3, e4, e5, e6, e7⟩ := h
      exact ⟨d - (j + 1), by omega, j + 1, as, b, e1, e2, e3, e4, e5, e6, e7, by omega, by omega, rfl⟩
    · refine ⟨_, rfl, .inl ⟨rfl, _, sq eF'⟩, _, rfl, F, _, _, rfl, rfl, eF', by rw [rlen]; exact smallL (by omega), ?_⟩
      have sm3 : Same H (upd H' F (.lst ((p0 :: as).map V.ref ++ [V.ref b]))) := same_mut sm nF' _
      have eb3 : IL (upd H' F (.lst ((p0 :: as).map V.ref ++ [V.ref b]))) b (turnN j ns) := by
        show upd _ _ _ _ = _
        rw [upd_ne nbF]
        exact eb
      have hLL3 : LLs (upd H' F (.lst ((p0 :: as).map V.ref ++ [V.ref b]))) (p0 :: as) (ringL j ns) := hLL.upd fun c hc => (has c hc).2
      have eF3 : (upd H' F (.lst ((p0 :: as).map V.ref ++ [V.ref b]))) F = some (.lst ((p0 :: as).map V.ref ++ [V.ref b])) := upd_same
      generalize upd H' F (.lst ((p0 :: as).map V.ref ++ [V.ref b])) = H3 at *
      have hts := (turnN_set (j := j) hset).len
      refine ⟨_, rfl, b, _, rfl, eb3, by omega, fun H4 b' sm4 nb' eb' => ?_⟩
      refine ⟨j + 1, as ++ [b], b', rfl, rfl, sm3.trans sm4, ⟨?_, ?_⟩, fun c hc => ?_, by rw [turnN_succ]; exact eb', sm3.free nb', (ne_of_none eF3 nb').symm⟩
      · rw [sm4 _ _ eF3, ← List.cons_append, List.map_append] <;> rfl
      · rw [ringL_succ, ← List.cons_append]
        exact (hLL3.same sm4).app ⟨sm4 _ _ eb3, trivial⟩
      · rw [← List.cons_append] at hc
        rcases List.mem_append.mp hc with hc | hc
        · exact has c hc
        · rw [List.mem_singleton.mp hc]
          exact ⟨nb, nbF⟩
  · have he : turnN j ns = ns := by
      by_cases e : turnN j ns = ns
      · exact e
      · rw [eqv_ints, decide_eq_false e] at c
        exact absurd rfl c
    have hjd : j = d := by
      rcases Nat.lt_or_ge j d with l | l
      · exact absurd he (hring.first j (by omega) l)
      · omega
    subst hjd
    exact ⟨_, rfl, q H' F (p0 :: as) sm nF' (fun c hc => (has c hc).1) ⟨eF', hLL⟩⟩

end

section
variable {P : Program} {w : World} {K : PySem.W.Frag} {mg : Str → Option Value} {base : Heap}
theorem sc_ring_of : FnScope ["piles", "here"] ["piles"] (defScope s_ring_of) := ⟨rfl, rfl, rfl, by decide +kernel, rfl, by decide +kernel, by decide +kernel⟩
/-- w turns until the first round one -/
structure Way (ns : List Int) (w : Nat) : Prop where
  before : ∀ j, j < w → marksBy (turnN j ns) = []
  there : marksBy (turnN w ns) ≠ []
def sp_ring_of : Sp := fun vs H Q _ => ∃ (a : Addr) (ns : List Int) (n : Int) (w d : Nat), vs = [.ref a] ∧ IL H a ns ∧ IsSet n ns ∧ n ≤ 100 ∧ Way ns w ∧ Ring (turnN w ns) d ∧ d ≤ 100000 ∧ NLL Q H (ringL d (turnN w ns))
theorem ok_ring_of (T : Txt K mg) : Cal P w K mg base CX0 3 "ring_of" ["piles"] sp_ring_of := by
  have C_marks_by := ok_marks_by (P := P) (w := w) (base := base) T
  have C_must_be := ok_must_be (P := P) (w := w) (base := base) T
  have C_ring_by := ok_ring_by (P := P) (w := w) (base := base) T
  have C_turned_by := ok_turned_by (P := P) (w := w) (base := base) T
  refine cal_mk T.d_ring_of sc_ring_of ?_ (fun _ _ _ _ _ _ us hl => match us, hl with | [_], _ => rfl) (fun f cdv A outer s H vs Q E hr h => ?_)
  · intro vs H Q E h
    obtain ⟨a, ns, n, w, d, rfl, _⟩ := h
    rfl
  obtain ⟨a, ns, n, w, d, rfl, hS, hset, hn, hw, hring, hd, q⟩ := h
  refine ⟨_, (pss_cons (ps_expr (pe_callF C_must_be (hr.mono (by decide)) (pa_cons (pv 0) pa_nil)))
      (pss_cons (ps_set (i := 1) sc_ring_of.nd rfl (Or.inl rfl) (pe_callTy (T := "list") call_list_of (by rfl) T.m_list (by decide +kernel) (pa_cons (pv 0) pa_nil)))
      (pss_cons (ps_while PassesOwn.never (pt_cmpR op_eq (pe_callB call_len_seq (by rfl) T.m_len PySem.boot_len (pa_cons (pe_callF C_marks_by (hr.mono (by decide)) (pa_cons (pv 1) pa_nil)) pa_nil)) pe_int (nomark _))
      (pss_one (ps_set (i := 1) sc_ring_of.nd rfl (Or.inl rfl) (pe_callF C_turned_by (hr.mono (by decide)) (pa_cons (pv 1) pa_nil)))))
      (pss_one (ps_ret (pe_callF C_ring_by (hr.mono (by decide)) (pa_cons (pv 1) pa_nil))))))), ?_⟩
  refine ⟨_, rfl, a, ns, rfl, hS, hset.1, by rw [hset.2]; exact hn, _, rfl, a, _, rfl, .inl (sq hS), fun p np => ?_⟩
  refine ⟨fun m σ H' => ∃ (j : Nat) (b : Addr), σ = [some (.ref a), some (.ref b)] ∧ Same H H' ∧ IL H' b (turnN j ns) ∧ j ≤ w ∧ m = w - j, ⟨_, 0, p, rfl, same_new np _, upd_same, Nat.zero_le _, rfl⟩, fun m σ H' hW => ?_⟩
  obtain ⟨j, b, rfl, sm, eb, hj, rfl⟩ := hW
  have hts := turnN_set (j := j) hset
  have htl := hts.len
  refine ⟨_, rfl, b, _, rfl, eb, hts.1, by rw [hts.2]; exact hn, fun H1 m sm1 nm em => ?_⟩
  have eb1 := sm1 _ _ eb
  refine ⟨m, _, rfl, .inl (sq em), rfl, _, rfl, ite2 (fun c => ?_) (fun c => ?_)⟩
  · have c' := V.int.inj (of_decide_eq_true c)
    rw [nlen] at c'
    have he : marksBy (turnN j ns) = [] := List.eq_nil_of_length_eq_zero (by omega)
    have hjw : j < w := by
      rcases Nat.lt_or_ge j w with l | l
      · exact l
      · obtain rfl : j = w := by omega
        exact absurd he hw.there
    refine ⟨fun σ' H2 => ∃ (j' : Nat) (b : Addr), j' = j + 1 ∧ σ' = [some (.ref a), some (.ref b)] ∧ Same H H2 ∧ IL H2 b (turnN j' ns), fun σ' H2 h => ?_, ?_⟩
    · obtain ⟨j', b, rfl, e1, e2, e3⟩ := h
      exact ⟨w - (j + 1), by omega, j + 1, b, e1, e2, e3, by omega, rfl⟩
    · exact ⟨_, rfl, b, _, rfl, eb1, by omega, fun H2 b' sm2 nb' eb' => ⟨j + 1, b', rfl, rfl, (sm.trans sm1).trans sm2, by rw [turnN_succ]; exact eb'⟩⟩
  · have hjw : j = w := by
      rcases Nat.lt_or_ge j w with l | l
      · refine absurd ?_ c
        rw [hw.before j l]
        exact decide_eq_true rfl
      · omega
    subst hjw
    exact ⟨_, rfl, b, _, n, d, rfl, eb1, hts, hn, hring, hd, fun H2 p2 as sm2 np2 nas hLL => q H2 p2 as ((sm.trans sm1).trans sm2) ((sm.trans sm1).free np2) (fun c hc => (sm.trans sm1).free (nas c hc)) hLL⟩

end

section
variable {P : Program} {w : World} {K : PySem.W.Frag} {mg : Str → Option Value} {base : Heap}
theorem sc_way_of : FnScope ["piles", "here", "turns"] ["piles"] (defScope s_way_of) := ⟨rfl, rfl, rfl, by decide +kernel, rfl, by decide +kernel, by decide +kernel⟩
def sp_way_of : Sp := fun vs H Q _ => ∃ (a : Addr) (ns : List Int) (n : Int) (w : Nat), vs = [.ref a] ∧ IL H a ns ∧ IsSet n ns ∧ n ≤ 100 ∧ Way ns w ∧ ∀ H', Same H H' → Q (.int w) H'
theorem ok_way_of (T : Txt K mg) : Cal P w K mg base CX0 3 "way_of" ["piles"] sp_way_of := by
  have C_marks_by := ok_marks_by (P := P) (w := w) (base := base) T
  have C_must_be := ok_must_be (P := P) (w := w) (base := base) T
  have C_turned_by := ok_turned_by (P := P) (w := w) (base := base) T
  refine cal_mk T.d_way_of sc_way_of ?_ (fun _ _ _ _ _ _ us hl => match us, hl with | [_], _ => rfl) (fun f cdv A outer s H vs Q E hr h => ?_)
  · intro vs H Q E h
    obtain ⟨a, ns, n, w, rfl, _⟩ := h
    rfl
  obtain ⟨a, ns, n, w, rfl, hS, hset, hn, hw, q⟩ := h
  refine ⟨_, (pss_cons (ps_expr (pe_callF C_must_be (hr.mono (by decide)) (pa_cons (pv 0) pa_nil)))
      (pss_cons (ps_set (i := 1) sc_way_of.nd rfl (Or.inl rfl) (pe_callTy (T := "list") call_list_of (by rfl) T.m_list (by decide +kernel) (pa_cons (pv 0) pa_nil)))
      (pss_cons (ps_set (i := 2) sc_way_of.nd rfl (Or.inl rfl) pe_int)
      (pss_cons (ps_while PassesOwn.never (pt_cmpR op_eq (pe_callB call_len_seq (by rfl) T.m_len PySem.boot_len (pa_cons (pe_callF C_marks_by (hr.mono (by decide)) (pa_cons (pv 1) pa_nil)) pa_nil)) pe_int (nomark _))
      (pss_cons (ps_set (i := 1) sc_way_of.nd rfl (Or.inl rfl) (pe_callF C_turned_by (hr.mono (by decide)) (pa_cons (pv 1) pa_nil)))
      (pss_one (ps_set (i := 2) sc_way_of.nd rfl (Or.inl rfl) (pe_op op_add (pv 2) pe_int)))))
      (pss_one (ps_ret (pv 2))))))), ?_⟩
  refine ⟨_, rfl, a, ns, rfl, hS, hset.1, by rw [hset.2]; exact hn, _, rfl, a, _, rfl, .inl (sq hS), fun p np => ?_⟩
  refine ⟨fun m σ H' => ∃ (j : Nat) (b : Addr), σ = [some (.ref a), some (.ref b), some (.int j)] ∧ Same H H' ∧ IL H' b (turnN j ns) ∧ j ≤ w ∧ m = w - j, ⟨_, 0, p, rfl, same_new np _, upd_same, Nat.zero_le _, rfl⟩, fun m σ H' hW => ?_⟩
  obtain ⟨j, b, rfl, sm, eb, hj, rfl⟩ := hW
  have hts := turnN_set (j := j) hset
  have htl := hts.len
  refine ⟨_, rfl, b, _, rfl, eb, hts.1, by rw [hts.2]; exact hn, fun H1 m sm1 nm em => ?_⟩
  have eb1 := sm1 _ _ eb
  refine ⟨m, _, rfl, .inl (sq em), rfl, _, rfl, ite2 (fun c => ?_) (fun c => ?_)⟩
  · have c' := V.int.inj (of_decide_eq_true c)
    rw [nlen] at c'
    have he : marksBy (turnN j ns) = [] := List.eq_nil_of_length_eq_zero (by omega)
    have hjw : j < w := by
      rcases Nat.lt_or_ge j w with l | l
      · exact l
      · obtain rfl : j = w := by omega
        exact absurd he hw.there
    refine ⟨fun σ' H2 => ∃ (j' : Nat) (b : Addr), j' = j + 1 ∧ σ' = [some (.ref a), some (.ref b), some (.int j')] ∧ Same H H2 ∧ IL H2 b (turnN j' ns), fun σ' H2 h => ?_, ?_⟩
    · obtain ⟨j', b, rfl, e1, e2, e3⟩ := h
      exact ⟨w - (j + 1), by omega, j + 1, b, e1, e2, e3, by omega, rfl⟩
    · exact ⟨_, rfl, b, _, rfl, eb1, by omega, fun H2 b' sm2 nb' eb' => ⟨_, rfl, _, _, rfl, rfl, j + 1, b', rfl, rfl, (sm.trans sm1).trans sm2, by rw [turnN_succ]; exact eb'⟩⟩
  · have hjw : j = w := by
      rcases Nat.lt_or_ge j w with l | l
      · refine absurd ?_ c
        rw [hw.before j l]
        exact decide_eq_true rfl
      · omega
    subst hjw
    exact ⟨_, rfl, q _ (sm.trans sm1)⟩

end

section
variable {P : Program} {w : World} {K : PySem.W.Frag} {mg : Str → Option Value} {base : Heap}
theorem sc_after : FnScope ["piles", "turns", "here", "seen", "row", "first"] ["piles", "turns"] (defScope s_after) := ⟨rfl, rfl, rfl, by decide +kernel, rfl, by decide +kernel, by decide +kernel⟩
def sp_after : Sp := fun vs H Q _ => ∃ (a : Addr) (ns : List Int) (n t : Nat), vs = [.ref a, .int t] ∧ IL H a ns ∧ IsSet n ns ∧ 1 ≤ n ∧ n ≤ 100 ∧ (t : Int) ≤ 10 ^ 29 ∧ NL Q H (turnN t ns)
theorem ok_after (T : Txt K mg) : Cal P w K mg base CX0 3 "after" ["piles", "turns"] sp_after := by
  have C_must_be := ok_must_be (P := P) (w := w) (base := base) T
  have C_turned_by := ok_turned_by (P := P) (w := w) (base := base) T
  refine cal_mk T.d_after sc_after ?_ (fun _ _ _ _ _ _ us hl => match us, hl with | [_, _], _ => rfl) (fun f cdv A outer s H vs Q E hr h => ?_)
  · intro vs H Q E h
    obtain ⟨a, ns, n, t, rfl, _⟩ := h
    rfl
  obtain ⟨a, ns, n, t, rfl, hS, hset, h1, h2, ht, q⟩ := h
  have hu := hu1 hr
  obtain ⟨i, p, hip, hm⟩ := meet_ex hset h1 h2
  have hp1 := hm.pos
  refine ⟨_, (pss_cons (ps_expr (pe_callF C_must_be (hr.mono (by decide)) (pa_cons (pv 0) pa_nil)))
      (pss_cons (ps_if (PW.pt (pw_or (pt_cmpR op_lt (pv 1) pe_int (nomark _)) (pw_or1 (pt_cmpR op_gt (pv 1) (pe_globX T.c_MOST_TURNS) (nomark _)))))
      (pss_one ps_never) pss_nil)
      (pss_cons (ps_set (i := 2) sc_after.nd rfl (Or.inl rfl) (pe_callTy (T := "list") call_list_of (by rfl) T.m_list (by decide +kernel) (pa_cons (pv 0) pa_nil)))
      (pss_cons (ps_set (i := 3) sc_after.nd rfl (Or.inl rfl) pe_dnewT)
      (pss_cons (ps_set (i := 4) sc_after.nd rfl (Or.inl rfl) (pe_lst pa_nil))
      (pss_cons (ps_while PassesOwn.never (pt_cmp (pc_dnotin hu (pe_callTy (T := "tuple") call_tuple_of (by rfl) T.m_tuple (by decide +kernel) (pa_cons (pv 2) pa_nil)) (pv 3)))
      (pss_cons (ps_dput hu (pv 3) (pe_callTy (T := "tuple") call_tuple_of (by rfl) T.m_tuple (by decide +kernel) (pa_cons (pv 2) pa_nil)) (pe_callB call_len_seq (by rfl) T.m_len PySem.boot_len (pa_cons (pv 4) pa_nil)) rfl)
      (pss_cons (ps_expr (pe_bm PySem.F.plainAttrs_list PySem.F.slot_list_append PySem.F.type_list_append mt_append (pv 4) (pa_cons (pv 2) pa_nil)))
      (pss_one (ps_set (i := 2) sc_after.nd rfl (Or.inl rfl) (pe_callF C_turned_by (hr.mono (by decide)) (pa_cons (pv 2) pa_nil)))))))
      (pss_cons (ps_if (pt_cmpR op_lt (pv 1) (pe_callB call_len_seq (by rfl) T.m_len PySem.boot_len (pa_cons (pv 4) pa_nil)) (nomark _))
      (pss_one (ps_ret (pe_callTy (T := "list") call_list_of (by rfl) T.m_list (by decide +kernel) (pa_cons (pe_ix ix_list (pv 4) (pv 1) (fun _ _ => rfl)) pa_nil)))) pss_nil)
      (pss_cons (ps_set (i := 5) sc_after.nd rfl (Or.inl rfl) (pe_dget hu (pv 3) (pe_callTy (T := "tuple") call_tuple_of (by rfl) T.m_tuple (by decide +kernel) (pa_cons (pv 2) pa_nil)) (fun _ _ => rfl)))
      (pss_one (ps_ret (pe_callTy (T := "list") call_list_of (by rfl) T.m_list (by decide +kernel) (pa_cons (pe_ix ix_list (pv 4) (pe_op op_add (pv 5) (pe_op op_mod (pe_op op_sub (pv 1) (pv 5)) (pe_op op_sub (pe_callB call_len_seq (by rfl) T.m_len PySem.boot_len (pa_cons (pv 4) pa_nil)) (pv 5)))) (fun _ _ => rfl)) pa_nil)))))))))))), ?_⟩
  refine ⟨_, rfl, a, ns, rfl, hS, hset.1, by rw [hset.2]; omega, ?_⟩
  refine ⟨_, rfl, _, _, rfl, rfl, _, rfl, ite2 (fun c => absurd (of_decide_eq_true c) (by omega)) (fun _ => ⟨_, rfl, _, _, rfl, rfl, _, rfl, ite2 (fun c => absurd (of_decide_eq_true c) (by omega)) (fun _ => ?_)⟩)⟩
  -- here, seen, row
  refine ⟨_, rfl, a, _, rfl, .inl (sq hS), fun p0 n0 => fun d nd => ⟨Nat.zero_le _, fun r nr => ?_⟩⟩
  have s0 := same_new n0 (.lst (ns.map V.int))
  have e0 : IL (upd H p0 (.lst (ns.map V.int))) p0 ns := upd_same
  have nd0 : H d = none := s0.free nd
  generalize upd H p0 (.lst (ns.map V.int)) = H0 at *
  have s1 := s0.trans (same_new nd (.dT []))
  have e1 := same_new nd (.dT []) _ _ e0
  have ed1 : (upd H0 d (.dT [])) d = some (.dT []) := upd_same
  have nr0 : H r = none := s1.free nr
  have ndr : d ≠ r := ne_of_none ed1 nr
  generalize upd H0 d (.dT []) = H1 at *
  have s2 := s1.trans (same_new nr (.lst []))
  have e2 := same_new nr (.lst []) _ _ e1
  have ed2 := same_new nr (.lst []) _ _ ed1
  have er2 : (upd H1 r (.lst [])) r = some (.lst []) := upd_same
  have n0r : p0 ≠ r := ne_of_none e1 nr
  generalize upd H1 r (.lst []) = H2 at *
  refine ⟨fun m σ H' => ∃ (j : Nat) (as : List Addr) (b : Addr), σ = [some (.ref a), some (.int t), some (.ref b), some (.ref d), some (.ref r), none] ∧ Same H H' ∧ H' d = some (.dT (seenL j ns)) ∧ LL H' r as (ringL j ns) ∧ IL H' b (turnN j ns) ∧ b ≠ r ∧ (∀ c ∈ as, c ≠ r) ∧ j ≤ i + p ∧ m = i + p - j,
    ⟨_, 0, [], p0, rfl, s2, ed2, ⟨er2, trivial⟩, e2, n0r, fun c hc => (by cases hc), Nat.zero_le _, rfl⟩, fun m σ H' hW => ?_⟩
  obtain ⟨j, as, b, rfl, sm, ed, ⟨er, hLL⟩, eb, nbr, has, hj, rfl⟩ := hW
  have hts := turnN_set (j := j) hset
  have htl := hts.len
  have hal := hLL.len
  rw [ringL_len] at hal
  refine ⟨_, rfl, b, _, rfl, .inl ⟨sq eb, fun l nl => ⟨_, rfl, ?_⟩⟩⟩
  have sl := same_new nl (.tup ((turnN j ns).map V.int))
  have el : (upd H' l (.tup ((turnN j ns).map V.int))) l = some (.tup ((kT (turnN j ns)).map kV)) := by
    rw [kT_map]
    exact upd_same
  have ed3 := sl _ _ ed
  have er3 := sl _ _ er
  have eb3 := sl _ _ eb
  have hLL3 := hLL.same sl
  have sm3 := sm.trans sl
  clear ed er eb hLL sm sl
  generalize upd H' l (.tup ((turnN j ns).map V.int)) = H3 at *
  refine ⟨d, _, rfl, DGet.t ed3 el, _, rfl, ite2 (fun c => ?_) (fun c => ?_)⟩
  · have hji : j < i + p := by
      rcases Nat.lt_or_ge j (i + p) with l | l
      · exact l
      · obtain rfl : j = i + p := by omega
        rw [seenL_yes (i := i) (by omega) hm.back.symm hm.inj] at c
        cases c
    have hno : valV (seenL j ns) (kT (turnN j ns)) = none := seenL_no fun i' hi' e => hm.inj i' j hi' hji e
    refine ⟨fun σ' H4 => ∃ (j' : Nat) (as : List Addr) (b : Addr), j' = j + 1 ∧ σ' = [some (.ref a), some (.int t), some (.ref b), some (.ref d), some (.ref r), none] ∧ Same H H4 ∧ H4 d = some (.dT (seenL j' ns)) ∧ LL H4 r as (ringL j' ns) ∧ IL H4 b (turnN j' ns) ∧ b ≠ r ∧ (∀ c ∈ as, c ≠ r), fun σ' H4 h => ?_, ?_⟩
    · obtain ⟨j', as, b, rfl, g1, g2, g3, g4, g5, g6, g7⟩ := h
      exact ⟨i + p - (j + 1), by omega, j + 1, as, b, g1, g2, g3, g4, g5, g6, g7, by omega, rfl⟩
    · refine ⟨_, rfl, r, _, rfl, .inl (sq er3), _, rfl, _, rfl, b, _, rfl, .inl ⟨sq eb3, fun l2 nl2 => ?_⟩⟩
      have sl := same_new nl2 (.tup ((turnN j ns).map V.int))
      have el2 : (upd H3 l2 (.tup ((turnN j ns).map V.int))) l2 = some (.tup ((kT (turnN j ns)).map kV)) := by
        rw [kT_map]
        exact upd_same
      have ed4 := sl _ _ ed3
      have er4 := sl _ _ er3
      have eb4 := sl _ _ eb3
      have hLL4 := hLL3.same sl
      have sm4 := sm3.trans sl
      clear ed3 er3 eb3 hLL3 sm3 sl el
      generalize upd H3 l2 (.tup ((turnN j ns).map V.int)) = H4 at *
      refine ⟨d, _, rfl, DPut.t ed4 el2 (by rw [seenL_len]; exact smallL (by omega)), ?_⟩
      rw [putK_new _ hno, rlen, hal, ← seenL_succ]
      have nbd : b ≠ d := ne_of eb4 ed4 (fun z => by cases z)
      have hnd : ∀ c ∈ as, c ≠ d := fun c hc => by
        obtain ⟨x, _, ex⟩ := hLL4.in_ hc
        exact ne_of ex ed4 (fun z => by cases z)
      have sm5 : Same H (upd H4 d (.dT (seenL (j + 1) ns))) := same_mut sm4 nd0 _
      have ed5 : (upd H4 d (.dT (seenL (j + 1) ns))) d = some (.dT (seenL (j + 1) ns)) := upd_same
      have er5 : (upd H4 d (.dT (seenL (j + 1) ns))) r = some (.lst (as.map V.ref)) := by rw [upd_ne ndr.symm]; exact er4
      have eb5 : IL (upd H4 d (.dT (seenL (j + 1) ns))) b (turnN j ns) := by show upd _ _ _ _ = _; rw [upd_ne nbd]; exact eb4
      have hLL5 : LLs (upd H4 d (.dT (seenL (j + 1) ns))) as (ringL j ns) := hLL4.upd hnd
      generalize upd H4 d (.dT (seenL (j + 1) ns)) = H5 at *
      refine ⟨_, rfl, .inl ⟨rfl, _, sq er5⟩, _, rfl, r, _, _, rfl, rfl, er5, by rw [rlen]; exact smallL (by omega), ?_⟩
      have sm6 : Same H (upd H5 r (.lst (as.map V.ref ++ [V.ref b]))) := same_mut sm5 nr0 _
      have ed6 : (upd H5 r (.lst (as.map V.ref ++ [V.ref b]))) d = some (.dT (seenL (j + 1) ns)) := by rw [upd_ne ndr]; exact ed5
      have eb6 : IL (upd H5 r (.lst (as.map V.ref ++ [V.ref b]))) b (turnN j ns) := by show upd _ _ _ _ = _; rw [upd_ne nbr]; exact eb5
      have er6 : LL (upd H5 r (.lst (as.map V.ref ++ [V.ref b]))) r (as ++ [b]) (ringL (j + 1) ns) := ⟨by rw [upd_same, List.map_append] <;> rfl, by rw [ringL_succ]; exact (hLL5.upd has).app ⟨eb6, trivial⟩⟩
      generalize upd H5 r (.lst (as.map V.ref ++ [V.ref b])) = H6 at *
      refine ⟨_, rfl, b, _, rfl, eb6, by omega, fun H7 b' sm7 nb' eb' => ?_⟩
      refine ⟨j + 1, as ++ [b], b', rfl, rfl, sm6.trans sm7, sm7 _ _ ed6, ⟨sm7 _ _ er6.1, er6.2.same sm7⟩, by rw [turnN_succ]; exact eb', (ne_of_none er6.1 nb').symm, fun c hc => ?_⟩
      rcases List.mem_append.mp hc with hc | hc
      · exact has c hc
      · rw [List.mem_singleton.mp hc]
        exact nbr
  · have hji : j = i + p := by
      rcases Nat.lt_or_ge j (i + p) with l | l
      · refine absurd ?_ c
        rw [seenL_no fun i' hi' e => hm.inj i' j hi' l e]
        rfl
      · omega
    subst hji
    refine ⟨_, rfl, _, rfl, r, _, rfl, .inl (sq er3), _, _, rfl, rfl, _, rfl, ite2 (fun c => ?_) (fun c => ?_)⟩
    · have c' : (t : Int) < ((as.map V.ref).length : Int) := of_decide_eq_true c
      rw [rlen] at c'
      obtain ⟨x, hx, ex⟩ := hLL3.at (ringL_get (j := t) (by omega))
      exact ⟨_, rfl, _, rfl, r, _, _, .ref x, rfl, rfl, sq er3, atI_nat (ref_get hx), x, _, rfl, .inl (sq ex), fun z nz => q _ z (sm3.trans (same_new nz _)) (sm3.free nz) upd_same⟩
    · have c' : ¬ (t : Int) < ((as.map V.ref).length : Int) := fun h => c (decide_eq_true h)
      rw [rlen] at c'
      refine ⟨_, rfl, _, rfl, b, _, rfl, .inl ⟨sq eb3, fun l2 nl2 => ?_⟩⟩
      have sl := same_new nl2 (.tup ((turnN (i + p) ns).map V.int))
      have el2 : (upd H3 l2 (.tup ((turnN (i + p) ns).map V.int))) l2 = some (.tup ((kT (turnN (i + p) ns)).map kV)) := by
        rw [kT_map]
        exact upd_same
      have ed4 := sl _ _ ed3
      have er4 := sl _ _ er3
      have hLL4 := hLL3.same sl
      have sm4 := sm3.trans sl
      clear ed3 er3 eb3 hLL3 sm3 sl el
      generalize upd H3 l2 (.tup ((turnN (i + p) ns).map V.int)) = H4 at *
      have hg : DGet H4 d (.ref l2) (some (.int i)) := by
        have := DGet.t ed4 el2
        rw [seenL_yes (i := i) (by omega) hm.back.symm hm.inj] at this
        exact this
      refine ⟨d, .int i, rfl, hg, ?_⟩
      have hmod := Nat.mod_lt (t - i) (show 0 < p by omega)
      obtain ⟨x, hx, ex⟩ := hLL4.at (ringL_get (j := i + (t - i) % p) (x := ns) (d := i + p) (by omega))
      rw [← hm.at (by omega)] at ex
      have e : (i : Int) + ((t : Int) - i) % (((as.map V.ref).length : Int) - i) = ((i + (t - i) % p : Nat) : Int) := by
        rw [rlen, hal, show ((i + p : Nat) : Int) - i = (p : Int) by omega, show (t : Int) - i = ((t - i : Nat) : Int) by omega, Int.natCast_add, Int.natCast_emod]
      refine ⟨_, rfl, _, rfl, _, rfl, _, rfl, _, _, rfl, rfl, _, rfl, r, _, rfl, .inl (sq er4), _, rfl, _, _, rfl, rfl, _, _, rfl, rfl, by rw [rlen, hal]; omega, _, _, rfl, rfl, r, _, _, .ref x, rfl, rfl, sq er4, by rw [e]; exact atI_nat (ref_get hx), x, _, rfl, .inl (sq ex), fun z nz => q _ z (sm4.trans (same_new nz _)) (sm4.free nz) upd_same⟩

end

section
variable {P : Program} {w : World} {K : PySem.W.Frag} {mg : Str → Option Value} {base : Heap}
theorem sc_law_cell : FnScope ["script", "k", "base"] ["script", "k"] (defScope s_law_cell) := ⟨rfl, rfl, rfl, by decide +kernel, rfl, by decide +kernel, by decide +kernel⟩
/-- any number may stand in a cell -/
def sp_law_cell (K : PySem.W.Frag) : Sp := fun vs H Q _ => ∃ (a : Addr) (ns : List Int) (k : Int), vs = [.ref a, .int k] ∧ SL K H a ns ∧ 0 ≤ k ∧ ∀ z, Q (.int z) H
theorem ok_law_cell (T : Txt K mg) : Cal P w K mg base CX0 1 "_law_cell" ["script", "k"] (sp_law_cell K) := by
  refine cal_mk T.d_law_cell sc_law_cell ?_ (fun _ _ _ _ _ _ us hl => match us, hl with | [_, _], _ => rfl) (fun f cdv A outer s H vs Q E hr h => ?_)
  · intro vs H Q E h
    obtain ⟨a, ns, k, rfl, _⟩ := h
    rfl
  obtain ⟨a, ns, k, rfl, hS, h0, q⟩ := h
  refine ⟨_, (pss_cons (ps_if (pt_cmpR op_lt (pv 1) (pe_callB call_len_seq (by rfl) T.m_len PySem.boot_len (pa_cons (pv 0) pa_nil)) (nomark _))
      (pss_one (ps_ret (pe_ix ix_list (pv 0) (pv 1) (fun _ _ => rfl)))) pss_nil)
      (pss_cons (ps_set (i := 2) sc_law_cell.nd rfl (Or.inl rfl) pe_int)
      (pss_cons (ps_if (pt_cmpR op_gt (pe_callB call_len_seq (by rfl) T.m_len PySem.boot_len (pa_cons (pv 0) pa_nil)) pe_int (nomark _))
      (pss_one (ps_set (i := 2) sc_law_cell.nd rfl (Or.inl rfl) (pe_ix ix_list (pv 0) pe_int (fun _ _ => rfl)))) pss_nil)
      (pss_one (ps_ret (pe_op op_mod (pe_op op_add (pe_op op_mul (pe_op op_mod (pv 2) pe_int) pe_int) (pe_op op_mul (pv 1) pe_int)) pe_int)))))), ?_⟩
  refine ⟨_, rfl, _, rfl, a, _, rfl, .inl hS, _, _, rfl, rfl, _, rfl, ite2 (fun c => ?_) (fun c => ?_)⟩
  · have c' : k < ((ns.map V.int).length : Int) := of_decide_eq_true c
    rw [List.length_map] at c'
    obtain ⟨j, rfl⟩ : ∃ j : Nat, k = j := ⟨k.toNat, by omega⟩
    have hj : j < ns.length := by omega
    exact ⟨_, rfl, _, rfl, a, _, _, .int ns[j], rfl, rfl, hS, atI_nat (int_get (List.getElem?_eq_getElem hj)), q _⟩
  · refine ⟨_, rfl, a, _, rfl, .inl hS, _, _, rfl, rfl, _, rfl, ite2 (fun c => ?_) (fun c => ?_)⟩
    · have c' : (0 : Int) < ((ns.map V.int).length : Int) := of_decide_eq_true c
      rw [List.length_map] at c'
      have hj : 0 < ns.length := by omega
      refine ⟨_, rfl, a, _, 0, .int ns[0], rfl, rfl, hS, atI_nat (j := 0) (int_get (List.getElem?_eq_getElem hj)), ?_⟩
      exact ⟨_, rfl, _, _, rfl, rfl, (by show (0 : Int) < 65521; decide), _, _, rfl, rfl, .inr ⟨by decide, by decide⟩, _, rfl, _, _, rfl, rfl, .inr ⟨by decide, by decide⟩, _, _, rfl, rfl, _, _, rfl, rfl, (by show (0 : Int) < 65521; decide), q _⟩
    · exact ⟨_, rfl, _, _, rfl, rfl, (by show (0 : Int) < 65521; decide), _, _, rfl, rfl, .inr ⟨by decide, by decide⟩, _, rfl, _, _, rfl, rfl, .inr ⟨by decide, by decide⟩, _, _, rfl, rfl, _, _, rfl, rfl, (by show (0 : Int) < 65521; decide), q _⟩

end

section
variable {P : Program} {w : World} {K : PySem.W.Frag} {mg : Str → Option Value} {base : Heap}
theorem sc_law_whole : FnScope ["found"] ["found"] (defScope s_law_whole) := ⟨rfl, rfl, rfl, by decide +kernel, rfl, by decide +kernel, by decide +kernel⟩
def sp_law_whole : Sp := fun vs H Q _ => ∃ z : Int, vs = [.int z] ∧ Q (.bl true) H
theorem ok_law_whole (T : Txt K mg) : Cal P w K mg base CX0 1 "_law_whole" ["found"] sp_law_whole := by
  refine cal_mk T.d_law_whole sc_law_whole ?_ (fun _ _ _ _ _ _ us hl => match us, hl with | [_], _ => rfl) (fun f cdv A outer s H vs Q E hr h => ?_)
  · intro vs H Q E h
    obtain ⟨z, rfl, _⟩ := h
    rfl
  obtain ⟨z, rfl, q⟩ := h
  refine ⟨_, (pss_one (ps_ret (pe_and (pe_callB call_isi (by rfl) T.m_isinstance (by decide +kernel) (pa_cons (pv 0) (pa_cons (pe_bltn (v := .ty "int") (by rfl) T.m_int (by decide +kernel) rfl) pa_nil))) (pe_one (pe_not (pe_callB call_isi (by rfl) T.m_isinstance (by decide +kernel) (pa_cons (pv 0) (pa_cons (pe_bltn (v := .ty "bool") (by rfl) T.m_bool (by decide +kernel) rfl) pa_nil)))))))), ?_⟩
  refine ⟨_, rfl, .int z, .ty "int", .type "int", .type "int", true, rfl, ClsV.ty _, .base (.int _), kit_ty (by decide +kernel), true, rfl, ?_⟩
  exact ⟨_, rfl, .int z, .ty "bool", .type "int", .type "bool", false, rfl, ClsV.ty _, .base (.int _), kit_ty (by decide +kernel), false, rfl, q⟩

end

section
variable {P : Program} {w : World} {K : PySem.W.Frag} {mg : Str → Option Value} {base : Heap}
theorem sc_law_next : FnScope ["step"] ["step"] (defScope s_law_next) := ⟨rfl, rfl, rfl, by decide +kernel, rfl, by decide +kernel, by decide +kernel⟩
def sp_law_next : Sp := fun vs H Q _ => ∃ n : Int, vs = [.int n] ∧ ∀ z, Q (.int z) H
theorem ok_law_next (T : Txt K mg) : Cal P w K mg base CX0 1 "_law_next" ["step"] sp_law_next := by
  refine cal_mk T.d_law_next sc_law_next ?_ (fun _ _ _ _ _ _ us hl => match us, hl with | [_], _ => rfl) (fun f cdv A outer s H vs Q E hr h => ?_)
  · intro vs H Q E h
    obtain ⟨n, rfl, _⟩ := h
    rfl
  obtain ⟨n, rfl, q⟩ := h
  refine ⟨_, (pss_one (ps_ret (pe_op op_mod (pe_op op_add (pe_op op_mul (pv 0) pe_int) pe_int) pe_int))), ?_⟩
  exact ⟨_, rfl, _, _, rfl, rfl, .inr ⟨by decide, by decide⟩, _, _, rfl, rfl, _, _, rfl, rfl, (by show (0 : Int) < 2147483647; decide), q _⟩

end

section
variable {P : Program} {w : World} {K : PySem.W.Frag} {mg : Str → Option Value} {base : Heap}
theorem sc_law_fallen : FnScope ["piles"] ["piles"] (defScope s_law_fallen) := ⟨rfl, rfl, rfl, by decide +kernel, rfl, by decide +kernel, by decide +kernel⟩
def sp_law_fallen : Sp := fun vs H Q _ => ∃ (a : Addr) (ns : List Int), vs = [.ref a] ∧ IL H a ns ∧ NL Q H (fall ns)
theorem ok_law_fallen (T : Txt K mg) : Cal P w K mg base CX0 1 "_law_fallen" ["piles"] sp_law_fallen := by
  refine cal_mk T.d_law_fallen sc_law_fallen ?_ (fun _ _ _ _ _ _ us hl => match us, hl with | [_], _ => rfl) (fun f cdv A outer s H vs Q E hr h => ?_)
  · intro vs H Q E h
    obtain ⟨a, ns, rfl, _⟩ := h
    rfl
  obtain ⟨a, ns, rfl, hS, q⟩ := h
  refine ⟨_, (pss_one (ps_ret (pe_listRev rfl (by rfl) T.m_list (by rfl) T.m_reversed (pe_callB cr_sortedI (by rfl) T.m_sorted (by decide +kernel) (pa_cons (pv 0) pa_nil))))), ?_⟩
  refine ⟨_, rfl, a, ns, rfl, sq hS, fun ns' p hp hs np => ?_⟩
  refine ⟨p, _, rfl, .inl (.inl upd_same), fun r nr => ?_⟩
  have s1 := same_new np (.lst (ns'.map V.int))
  refine q _ r (s1.trans (same_new nr _)) (s1.free nr) ?_
  show upd _ _ _ _ = _
  rw [upd_same, ← List.map_reverse]
  have e : ns'.reverse = fall ns := fall_eq ((List.reverse_perm ns').trans hp) (List.pairwise_reverse.mpr (hs.imp fun h => h))
  rw [e]

end

section
variable {P : Program} {w : World} {K : PySem.W.Frag} {mg : Str → Option Value} {base : Heap}
theorem sc_law_turned : FnScope ["piles", "pile"] ["piles"] (defScope s_law_turned) := ⟨rfl, rfl, rfl, by decide +kernel, rfl, by decide +kernel, by decide +kernel⟩
def sp_law_turned : Sp := fun vs H Q _ => ∃ (a : Addr) (ns : List Int), vs = [.ref a] ∧ IL H a ns ∧ ns.length ≤ 1000 ∧ NL Q H (fall (down1 ns ++ [(ns.length : Int)]))
theorem ok_law_turned (T : Txt K mg) : Cal P w K mg base CX0 2 "_law_turned" ["piles"] sp_law_turned := by
  have C_law_fallen := ok_law_fallen (P := P) (w := w) (base := base) T
  refine cal_mk T.d_law_turned sc_law_turned ?_ (fun _ _ _ _ _ _ us hl => match us, hl with | [_], _ => rfl) (fun f cdv A outer s H vs Q E hr h => ?_)
  · intro vs H Q E h
    obtain ⟨a, ns, rfl, _⟩ := h
    rfl
  obtain ⟨a, ns, rfl, hS, hl, q⟩ := h
  refine ⟨_, (pss_one (ps_ret (pe_callF C_law_fallen (hr.mono (by decide)) (pa_cons (pe_op op_cat (pe_lc (own := [("pile", 1)]) (g := gName 1) rfl sc_law_turned.nd (pi_list (pv 0)) (blkOk_by (own := [("pile", 1)]) (N := ["piles", "pile"]) (sc := defScope s_law_turned) (by decide +kernel)) (fun _ _ _ _ _ => pg_name (i := 1) sc_law_turned.nd rfl (Or.inl rfl)) (fun _ _ _ _ _ => (pts_one (pt_cmpR op_gt (pv 1) pe_int (nomark _)))) (fun _ _ _ _ _ => (pe_op op_sub (pv 1) pe_int))) (pe_lst (pa_cons (pe_callB call_len_seq (by rfl) T.m_len PySem.boot_len (pa_cons (pv 0) pa_nil)) pa_nil))) pa_nil)))), ?_⟩
  -- the comprehension
  refine ⟨_, rfl, a, rfl, ⟨_, sq hS⟩, fun D nD => lc_list (K := K) (a := a) (xs := ns.map V.int) (fun i H' => Same H H' ∧ H' D = some (.lst ((down1 (ns.take i)).map V.int))) ?_ ?_ ?_ ?_⟩
  · exact ⟨same_new nD _, upd_same⟩
  · exact fun i H' _ h => sq (h.1 _ _ hS)
  · intro i x H' hx h
    obtain ⟨z, hz, rfl⟩ := get_int hx
    obtain ⟨sm, eD⟩ := h
    refine ⟨rfl, .int z, rfl, _, _, rfl, rfl, _, rfl, ?_⟩
    have et : ns.take (i + 1) = ns.take i ++ [z] := by
      rw [List.take_add_one, hz] <;> rfl
    refine ite2 (fun c => ?_) (fun c => ?_)
    · have c' : z > 1 := of_decide_eq_true c
      refine ⟨.int z, rfl, _, _, rfl, rfl, _, eD, ?_, ?_, ?_⟩
      · rw [List.length_map]
        have := down1_length (ns.take i)
        rw [List.length_take] at this
        exact smallL (by omega)
      · exact same_mut sm nD _
      · rw [upd_same, et]
        have : down1 (ns.take i ++ [z]) = down1 (ns.take i) ++ [z - 1] := by
          unfold down1
          rw [List.filter_append, List.map_append]
          congr 1
          rw [List.filter_cons, if_pos (decide_eq_true c')] <;> rfl
        rw [this, List.map_append] <;> rfl
    · have c' : ¬ z > 1 := fun h => c (decide_eq_true h)
      refine ⟨sm, ?_⟩
      rw [et]
      have : down1 (ns.take i ++ [z]) = down1 (ns.take i) := by
        unfold down1
        rw [List.filter_append, List.map_append, List.filter_cons, if_neg (by simp only [decide_eq_true_eq]; exact c')]
        simp
      rw [this]
      exact eD
  · intro H1 h
    obtain ⟨sm, eD⟩ := h
    rw [List.length_map, List.take_length] at eD
    refine ⟨_, rfl, a, _, rfl, .inl (sq (sm _ _ hS)), (by show 1 ≤ sizeLine; decide), fun c nc => ?_⟩
    have nDc : D ≠ c := ne_of_none eD nc
    refine ⟨D, c, _, _, rfl, rfl, by rw [upd_ne nDc]; exact eD, upd_same, ?_, fun e ne => ?_⟩
    · rw [List.length_map]
      have := down1_length ns
      exact small (by show (down1 ns).length + 1 ≤ _; omega)
    · have s2 : Same H (upd (upd H1 c (.lst [.int ((ns.map V.int).length : Int)])) e (.lst ((down1 ns).map V.int ++ [.int ((ns.map V.int).length : Int)]))) := (sm.trans (same_new nc _)).trans (same_new ne _)
      refine ⟨e, down1 ns ++ [(ns.length : Int)], rfl, ?_, fun H' p s3 np ep => q H' p (s2.trans s3) (s2.free np) ep⟩
      show _ = _
      rw [upd_same, List.map_append, List.length_map] <;> rfl

end

section
variable {P : Program} {w : World} {K : PySem.W.Frag} {mg : Str → Option Value} {base : Heap}
theorem sc_law_stair : FnScope ["coins", "stair"] ["coins"] (defScope s_law_stair) := ⟨rfl, rfl, rfl, by decide +kernel, rfl, by decide +kernel, by decide +kernel⟩
def sp_law_stair : Sp := fun vs H Q _ => ∃ n : Nat, vs = [.int n] ∧ 1 ≤ n ∧ n ≤ 100000 ∧ Q (.int (stair n)) H
theorem ok_law_stair (T : Txt K mg) : Cal P w K mg base CX0 1 "_law_stair" ["coins"] sp_law_stair := by
  refine cal_mk T.d_law_stair sc_law_stair ?_ (fun _ _ _ _ _ _ us hl => match us, hl with | [_], _ => rfl) (fun f cdv A outer s H vs Q E hr h => ?_)
  · intro vs H Q E h
    obtain ⟨n, rfl, _⟩ := h
    rfl
  obtain ⟨n, rfl, h1, h2, q⟩ := h
  refine ⟨_, (pss_cons (ps_set (i := 1) sc_law_stair.nd rfl (Or.inl rfl) pe_int)
      (pss_cons (ps_while PassesOwn.never (pt_cmpR op_lt (pe_op op_mul (pv 1) (pe_op op_add (pv 1) pe_int)) (pe_op op_mul pe_int (pv 0)) (nomark _))
      (pss_one (ps_set (i := 1) sc_law_stair.nd rfl (Or.inl rfl) (pe_op op_add (pv 1) pe_int))))
      (pss_one (ps_ret (pv 1))))), ?_⟩
  refine ⟨fun m σ H' => ∃ s : Nat, σ = [some (.int n), some (.int s)] ∧ H' = H ∧ m = 2 * n + 2 - s ∧ 1 ≤ s ∧ (s - 1) * s < 2 * n, ⟨_, 1, rfl, rfl, rfl, Nat.le_refl _, by omega⟩, fun m σ H' hW => ?_⟩
  obtain ⟨s, rfl, rfl, rfl, g1, g2⟩ := hW
  have g3 : s ≤ 2 * n + 1 := by
    have := Nat.mul_le_mul_left (s - 1) g1
    omega
  refine ⟨_, rfl, _, rfl, _, _, rfl, rfl, _, _, rfl, rfl, .inl ⟨by omega, by omega⟩, _, rfl, _, _, rfl, rfl, .inl ⟨by decide, by decide⟩, _, _, rfl, rfl, _, rfl, ite2 (fun c => ?_) (fun c => ?_)⟩
  · have c' : (s : Int) * ((s : Int) + 1) < 2 * (n : Int) := of_decide_eq_true c
    have c2 : s * (s + 1) < 2 * n := by exact_mod_cast c'
    refine ⟨fun σ' H2 => ∃ s' : Nat, s' = s + 1 ∧ σ' = [some (.int n), some (.int s')] ∧ H2 = H', fun σ' H2 h => ?_, ?_⟩
    · obtain ⟨s', rfl, e1, e2⟩ := h
      exact ⟨2 * n + 2 - (s + 1), by omega, s + 1, e1, e2, rfl, by omega, by rw [Nat.add_sub_cancel]; exact c2⟩
    · exact ⟨_, rfl, _, _, rfl, rfl, s + 1, rfl, rfl, rfl⟩
  · have c' : ¬ (s : Int) * ((s : Int) + 1) < 2 * (n : Int) := fun h => c (decide_eq_true h)
    have c2 : 2 * n ≤ s * (s + 1) := by
      have : ¬ s * (s + 1) < 2 * n := fun h => c' (by exact_mod_cast h)
      omega
    rw [← stair_uniq h1 g1 g2 c2] at q
    exact ⟨_, rfl, q⟩

end

section
variable {P : Program} {w : World} {K : PySem.W.Frag} {mg : Str → Option Value} {base : Heap}
theorem sc_law_by_marks : FnScope ["marks", "piles", "k", "pile"] ["marks"] (defScope s_law_by_marks) := ⟨rfl, rfl, rfl, by decide +kernel, rfl, by decide +kernel, by decide +kernel⟩
def sp_law_by_marks : Sp := fun vs H Q _ => ∃ (a : Addr) (ms : List Int), vs = [.ref a] ∧ IL H a ms ∧ ms.length ≤ 1000 ∧ NL Q H (ofMarks ms)
theorem ok_law_by_marks (T : Txt K mg) : Cal P w K mg base CX0 1 "_law_by_marks" ["marks"] sp_law_by_marks := by
  refine cal_mk T.d_law_by_marks sc_law_by_marks ?_ (fun _ _ _ _ _ _ us hl => match us, hl with | [_], _ => rfl) (fun f cdv A outer s H vs Q E hr h => ?_)
  · intro vs H Q E h
    obtain ⟨a, ms, rfl, _⟩ := h
    rfl
  obtain ⟨a, ms, rfl, hS, hl, q⟩ := h
  refine ⟨_, (pss_cons (ps_setLc (i := 1) (own := [("k", 2)]) (g := gName 2) rfl sc_law_by_marks.nd rfl rfl (sw_true rfl rfl rfl (by decide +kernel)) (pi_range1 (by rfl) T.m_range (pa_cons (pe_callB call_len_seq (by rfl) T.m_len PySem.boot_len (pa_cons (pv 0) pa_nil)) pa_nil)) (blkOk_by (own := [("k", 2)]) (N := ["marks", "piles", "k", "pile"]) (sc := defScope s_law_by_marks) (by decide +kernel)) (fun _ _ _ _ _ => pg_name (i := 2) sc_law_by_marks.nd rfl (Or.inl rfl)) (fun _ _ _ _ _ => pts_nil) (fun _ _ _ _ _ => (pe_op op_add (pe_op op_sub (pe_op op_sub (pe_callB (call_len_seqK K) (by rfl) T.m_len PySem.boot_len (pa_cons (pv 0) pa_nil)) pe_int) (pv 2)) (pe_ix (ix_listK K) (pv 0) (pv 2) (fun _ _ => rfl)))))
      (pss_one (ps_ret (pe_lc (own := [("pile", 3)]) (g := gName 3) rfl sc_law_by_marks.nd (pi_list (pv 1)) (blkOk_by (own := [("pile", 3)]) (N := ["marks", "piles", "k", "pile"]) (sc := defScope s_law_by_marks) (by decide +kernel)) (fun _ _ _ _ _ => pg_name (i := 3) sc_law_by_marks.nd rfl (Or.inl rfl)) (fun _ _ _ _ _ => (pts_one (pt_cmpR op_gt (pv 3) pe_int (nomark _)))) (fun _ _ _ _ _ => (pv 3)))))), ?_⟩
  refine ⟨_, rfl, a, _, rfl, .inl (sq hS), _, rfl, by rw [nlen]; omega, by rw [nlen]; omega, fun D nD => lc_range (lo := 0) (n := ((ms.map V.int).length : Int).toNat) (fun i H' => Same H H' ∧ IL H' D ((mk ms).take i)) ⟨same_new nD _, upd_same⟩ ?_ ?_⟩
  · intro i H' hi h
    obtain ⟨sm, eD⟩ := h
    rw [nlen] at hi
    have hi : i < ms.length := by omega
    refine ⟨rfl, _, rfl, a, _, rfl, .inl (sq (sm _ _ hS)), _, _, rfl, rfl, _, rfl, _, _, rfl, rfl, _, rfl, _, rfl, a, _, _, .int ms[i], rfl, rfl, sq (sm _ _ hS), at_of (j := i) (by omega) (int_get (List.getElem?_eq_getElem hi)), _, _, rfl, rfl, _, eD, ?_, same_mut sm nD _, ?_⟩
    · rw [nlen, List.length_take, mk_length]
      exact smallL (by omega)
    · have g := mk_get (List.getElem?_eq_getElem hi)
      show upd _ _ _ _ = _
      rw [upd_same, take_snoc g, List.map_append, nlen]
      congr 4
      simp
  · intro H1 h
    obtain ⟨sm, eD⟩ := h
    rw [nlen, Int.toNat_natCast, ← mk_length, List.take_length] at eD
    refine ⟨_, rfl, D, rfl, ⟨_, sq eD⟩, fun G nG => lc_list (K := K) (a := D) (xs := (mk ms).map V.int) (fun i H' => Same H1 H' ∧ IL H' G (((mk ms).take i).filter fun z => decide (z > 0))) ⟨same_new nG _, upd_same⟩ (fun i H' _ h => sq (h.1 _ _ eD)) ?_ ?_⟩
    · intro i x H' hx h
      obtain ⟨z, hz, rfl⟩ := get_int hx
      obtain ⟨sm2, eG⟩ := h
      refine ⟨rfl, _, rfl, _, _, rfl, rfl, _, rfl, ?_⟩
      rw [take_snoc hz, List.filter_append]
      refine ite2 (fun c => ?_) (fun c => ?_)
      · have c' : z > 0 := of_decide_eq_true c
        refine ⟨_, rfl, _, eG, ?_, same_mut sm2 nG _, ?_⟩
        · rw [nlen]
          have := List.length_filter_le (fun z => decide (z > 0)) ((mk ms).take i)
          rw [List.length_take, mk_length] at this
          exact smallL (by omega)
        · show upd _ _ _ _ = _
          rw [upd_same, List.map_append, List.filter_cons, if_pos (decide_eq_true c')] <;> rfl
      · have c' : ¬ z > 0 := fun h => c (decide_eq_true h)
        refine ⟨sm2, ?_⟩
        rw [List.filter_cons, if_neg (by simp only [decide_eq_true_eq]; exact c'), List.filter_nil, List.append_nil]
        exact eG
    · intro H2 h
      obtain ⟨sm2, eG⟩ := h
      rw [nlen, List.take_length] at eG
      exact q H2 G (sm.trans sm2) (sm.free nG) eG

end

section
variable {P : Program} {w : World} {K : PySem.W.Frag} {mg : Str → Option Value} {base : Heap}
theorem sc_law_drawn_marks : FnScope ["script", "k", "coins", "stair", "ones", "step", "marks", "j"] ["script", "k", "coins"] (defScope s_law_drawn_marks) := ⟨rfl, rfl, rfl, by decide +kernel, rfl, by decide +kernel, by decide +kernel⟩
theorem bits_sum_le {ms : List Int} (h : Bits ms) : 0 ≤ ms.sum := by
  induction ms with
  | nil => exact Int.le_refl 0
  | cons x r ih =>
    have := h x (List.mem_cons_self ..)
    have := ih fun z hz => h z (List.mem_cons_of_mem _ hz)
    rw [List.sum_cons]
    omega
theorem ins_facts {l : List Int} {j : Nat} {x : Int} : (∀ z, z ∈ l.take j ++ [x] ++ l.drop j ↔ z = x ∨ z ∈ l) ∧ (l.take j ++ [x] ++ l.drop j).sum = x + l.sum ∧ (l.take j ++ [x] ++ l.drop j).length = l.length + 1 := by
  have p : (l.take j ++ [x] ++ l.drop j).Perm (x :: l) := by
    have h := (List.perm_middle (a := x) (l₁ := l.take j) (l₂ := l.drop j))
    rw [List.take_append_drop] at h
    rw [List.append_assoc]
    exact h
  exact ⟨fun z => by rw [p.mem_iff, List.mem_cons], by rw [perm_sum p, List.sum_cons], p.length_eq⟩
def sp_law_drawn_marks (K : PySem.W.Frag) : Sp := fun vs H Q _ => ∃ (a : Addr) (ns : List Int) (k : Int) (n : Nat), vs = [.ref a, .int k, .int n] ∧ SL K H a ns ∧ 0 ≤ k ∧ 1 ≤ n ∧ n ≤ 100 ∧
  ∀ ms : List Int, Bits ms → ms.length = stair n → ms.sum = (restOf n : Int) → NL Q H ms
theorem ok_law_drawn_marks (T : Txt K mg) : Cal P w K mg base CX0 2 "_law_drawn_marks" ["script", "k", "coins"] (sp_law_drawn_marks K) := by
  have C_law_cell := ok_law_cell (P := P) (w := w) (base := base) T
  have C_law_next := ok_law_next (P := P) (w := w) (base := base) T
  have C_law_stair := ok_law_stair (P := P) (w := w) (base := base) T
  refine cal_mk T.d_law_drawn_marks sc_law_drawn_marks ?_ (fun _ _ _ _ _ _ us hl => match us, hl with | [_, _, _], _ => rfl) (fun f cdv A outer s H vs Q E hr h => ?_)
  · intro vs H Q E h
    obtain ⟨a, ns, k, n, rfl, _⟩ := h
    rfl
  obtain ⟨a, ns, k, n, rfl, hS, h0, h1, h2, q⟩ := h
  refine ⟨_, (pss_cons (ps_set (i := 3) sc_law_drawn_marks.nd rfl (Or.inl rfl) (pe_callF C_law_stair (hr.mono (by decide)) (pa_cons (pv 2) pa_nil)))
      (pss_cons (ps_set (i := 4) sc_law_drawn_marks.nd rfl (Or.inl rfl) (pe_op op_sub (pv 2) (pe_op op_fdiv (pe_op op_mul (pv 3) (pe_op op_sub (pv 3) pe_int)) pe_int)))
      (pss_cons (ps_set (i := 5) sc_law_drawn_marks.nd rfl (Or.inl rfl) (pe_callF C_law_next (hr.mono (by decide)) (pa_cons (pe_op op_add (pe_op op_mod (pe_op op_mul (pe_callF C_law_cell (hr.mono (by decide)) (pa_cons (pv 0) (pa_cons (pv 1) pa_nil))) pe_int) pe_int) pe_int) pa_nil)))
      (pss_cons (ps_set (i := 6) sc_law_drawn_marks.nd rfl (Or.inl rfl) (pe_lst pa_nil))
      (pss_cons (ps_for PassesOwn.never rfl (pi_range1 (by rfl) T.m_range (pa_cons (pv 3) pa_nil)) (pg_name (i := 7) sc_law_drawn_marks.nd rfl (Or.inl rfl))
      (pss_cons (ps_set (i := 5) sc_law_drawn_marks.nd rfl (Or.inl rfl) (pe_callF C_law_next (hr.mono (by decide)) (pa_cons (pv 5) pa_nil)))
      (pss_one (ps_expr (pe_bm PySem.F.plainAttrs_list PySem.F.slot_list_insert PySem.F.type_list_insert mt_insert (pv 6) (pa_cons (pe_op op_mod (pe_op op_fdiv (pv 5) pe_int) (pe_op op_add (pv 7) pe_int)) (pa_cons (pe_callTy (T := "int") call_int1 (by rfl) T.m_int (by decide +kernel) (pa_cons (pe_cmpR op_lt (pv 7) (pv 4) (nomark _)) pa_nil)) pa_nil)))))))
      (pss_one (ps_ret (pv 6)))))))), ?_⟩
  obtain ⟨r1, r2, r3⟩ := rest_spec h1
  have hs := stair_le h1 (b := 14) (by omega) (by omega)
  have hs1 := (stair_spec h1).1
  generalize hst : stair n = S at *
  generalize hro : restOf n = R at *
  refine ⟨_, rfl, n, rfl, h1, by omega, ?_⟩
  rw [hst]
  have e1 : (n : Int) - (S : Int) * ((S : Int) - 1) / 2 = (R : Int) := by
    have : (S : Int) * ((S : Int) - 1) = ((S * (S - 1) : Nat) : Int) := by
      rw [Int.natCast_mul]
      congr 1
      omega
    rw [this]
    omega
  refine ⟨_, rfl, _, rfl, _, rfl, _, _, rfl, rfl, _, _, rfl, rfl, .inl ⟨by omega, by omega⟩, _, _, rfl, rfl, ⟨by decide, by decide⟩, _, _, rfl, rfl, ?_⟩
  refine ⟨_, rfl, _, rfl, a, ns, k, rfl, hS, h0, fun z1 => ⟨_, _, rfl, rfl, .inr ⟨by decide, by decide⟩, _, _, rfl, rfl, (by show (0 : Int) < 2147483647; decide), _, _, rfl, rfl, _, rfl, fun z2 => ?_⟩⟩
  refine ⟨Nat.zero_le _, fun M nM => ?_⟩
  refine ⟨_, rfl, _, rfl, by omega, by omega, for_range (lo := 0) (n := (S : Int).toNat) (fun i σ H' => ∃ (st y : Option V) (ms : List Int), (∃ z, st = some (.int z)) ∧ σ = [some (.ref a), some (.int k), some (.int n), some (.int S), some (.int ((n : Int) - (S : Int) * ((S : Int) - 1) / 2)), st, some (.ref M), y] ∧
    Same H H' ∧ IL H' M ms ∧ Bits ms ∧ ms.length = i ∧ ms.sum = ((min i R : Nat) : Int)) ⟨_, none, [], ⟨z2, rfl⟩, rfl, same_new nM _, upd_same, (fun m hm => by cases hm), rfl, by rw [Nat.zero_min] <;> rfl⟩ ?_ ?_⟩
  · intro i σ H' hi h
    obtain ⟨_, y, ms, ⟨z, rfl⟩, rfl, sm, eM, hb, hlen, hsum⟩ := h
    refine ⟨_, rfl, z, rfl, fun z3 => ?_⟩
    refine ⟨_, rfl, Or.inl ⟨rfl, _, sq eM⟩, _, rfl, _, _, rfl, rfl, ⟨by decide, by decide⟩, _, rfl, _, _, rfl, rfl, _, _, rfl, rfl, (by show (0 : Int) < 0 + (i : Int) + 1; omega), _, rfl, _, rfl, _, _, rfl, rfl, Or.inr ⟨_, rfl, ?_⟩⟩
    have hmod := Int.emod_nonneg (z3 / 64) (show (0 : Int) + (i : Int) + 1 ≠ 0 by omega)
    have hmod2 := Int.emod_lt_of_pos (z3 / 64) (show (0 : Int) < 0 + (i : Int) + 1 by omega)
    generalize hJ : (z3 / 64) % ((0 : Int) + (i : Int) + 1) = J at hmod hmod2
    generalize hbit : (if decide ((0 : Int) + (i : Int) < (n : Int) - (S : Int) * ((S : Int) - 1) / 2) = true then (1 : Int) else 0) = B
    have hB : (i < R ∧ B = 1) ∨ (R ≤ i ∧ B = 0) := by
      by_cases c : i < R
      · rw [e1, if_pos (decide_eq_true (by omega))] at hbit
        exact .inl ⟨c, hbit.symm⟩
      · rw [e1, if_neg (fun h => by have := of_decide_eq_true h; omega)] at hbit
        exact .inr ⟨by omega, hbit.symm⟩
    refine ⟨M, ms.map V.int, J, .int B, rfl, by rw [← hJ, ← hbit] <;> rfl, eM, by rw [nlen]; exact smallL (by omega), hmod, by omega, ?_⟩
    obtain ⟨f1, f2, f3⟩ := ins_facts (l := ms) (j := J.toNat) (x := B)
    refine ⟨_, _, ms.take J.toNat ++ [B] ++ ms.drop J.toNat, ⟨z3, rfl⟩, rfl, same_mut sm nM _, ?_, fun m hm => ?_, by omega, ?_⟩
    · show upd _ _ _ _ = _
      rw [upd_same, List.map_append, List.map_append, List.map_take, List.map_drop] <;> rfl
    · rcases (f1 m).mp hm with e | e
      · omega
      · exact hb m e
    · rw [f2, hsum]
      omega
  · intro σ H' h
    obtain ⟨_, y, ms, ⟨z, rfl⟩, rfl, sm, eM, hb, hlen, hsum⟩ := h
    refine ⟨_, rfl, q ms hb (by omega) (by rw [hsum]; omega) H' M sm nM eM⟩

end

section
variable {P : Program} {w : World} {K : PySem.W.Frag} {mg : Str → Option Value} {base : Heap}
theorem sc_law_elder : FnScope ["piles", "number", "many", "some", "at", "rest", "pile", "k"] ["piles", "number"] (defScope s_law_elder) := ⟨rfl, rfl, rfl, by decide +kernel, rfl, by decide +kernel, by decide +kernel⟩
def sp_law_elder (K : PySem.W.Frag) : Sp := fun vs H Q _ => ∃ (a : Addr) (ns : List Int) (z n : Int), vs = [.ref a, .int z] ∧ IL H a ns ∧ IsSet n ns ∧ n ≤ 100 ∧
  ∀ H' p ms, Same H H' → IL H' p ms → IsSet n ms → Q (.ref p) H'
theorem ok_law_elder (T : Txt K mg) : Cal P w K mg base CX0 1 "_law_elder" ["piles", "number"] (sp_law_elder K) := by
  refine cal_mk T.d_law_elder sc_law_elder ?_ (fun _ _ _ _ _ _ us hl => match us, hl with | [_, _], _ => rfl) (fun f cdv A outer s H vs Q E hr h => ?_)
  · intro vs H Q E h
    obtain ⟨a, ns, z, n, rfl, _⟩ := h
    rfl
  obtain ⟨a, ns, z, n, rfl, hS, hset, hn, q⟩ := h
  have hlen := hset.len
  refine ⟨_, (pss_cons (ps_set (i := 2) sc_law_elder.nd rfl (Or.inr rfl) (pe_callB call_len_seq (by rfl) T.m_len PySem.boot_len (pa_cons (pv 0) pa_nil)))
      (pss_cons (ps_setLc (i := 3) (own := [("at", 4)]) (g := gName 4) rfl sc_law_elder.nd rfl rfl (sw_true rfl rfl rfl (by decide +kernel)) (pi_range1 (by rfl) T.m_range (pa_cons (pv 2) pa_nil)) (blkOk_by (own := [("at", 4)]) (N := ["piles", "number", "many", "some", "at", "rest", "pile", "k"]) (sc := defScope s_law_elder) (by decide +kernel)) (fun _ _ _ _ _ => pg_name (i := 4) sc_law_elder.nd rfl (Or.inl rfl)) (fun _ _ _ _ _ => (pts_one (pt_cmpR op_ge (pe_ix (ix_listK K) (pv 0) (pv 4) (fun _ _ => rfl)) (pe_op op_sub (pv 2) pe_int) (nomark _)))) (fun _ _ _ _ _ => (pv 4)))
      (pss_cons (ps_if (pt_cmpR op_eq (pe_callB call_len_seq (by rfl) T.m_len PySem.boot_len (pa_cons (pv 3) pa_nil)) pe_int (nomark _))
      (pss_one (ps_ret (pv 0))) pss_nil)
      (pss_cons (ps_set (i := 4) sc_law_elder.nd rfl (Or.inl rfl) (pe_ix ix_list (pv 3) (pe_op op_mod (pv 1) (pe_callB call_len_seq (by rfl) T.m_len PySem.boot_len (pa_cons (pv 3) pa_nil))) (fun _ _ => rfl)))
      (pss_cons (ps_setLc (i := 5) (own := [("pile", 6)]) (g := gName 6) rfl sc_law_elder.nd rfl rfl (sw_true rfl rfl rfl (by decide +kernel)) (pi_list (pe_op op_cat (pe_slice sl_list (pv 0) po_none (po_some (pv 4))) (pe_slice sl_list (pv 0) (po_some (pe_op op_add (pv 4) pe_int)) po_none))) (blkOk_by (own := [("pile", 6)]) (N := ["piles", "number", "many", "some", "at", "rest", "pile", "k"]) (sc := defScope s_law_elder) (by decide +kernel)) (fun _ _ _ _ _ => pg_name (i := 6) sc_law_elder.nd rfl (Or.inl rfl)) (fun _ _ _ _ _ => pts_nil) (fun _ _ _ _ _ => (pe_op op_add (pv 6) pe_int)))
      (pss_one (ps_ret (pe_op op_cat (pv 5) (pe_lc (own := [("k", 7)]) (g := gName 7) rfl sc_law_elder.nd (pi_range1 (by rfl) T.m_range (pa_cons (pe_op op_sub (pe_ix ix_list (pv 0) (pv 4) (fun _ _ => rfl)) (pe_callB call_len_seq (by rfl) T.m_len PySem.boot_len (pa_cons (pv 5) pa_nil))) pa_nil)) (blkOk_by (own := [("k", 7)]) (N := ["piles", "number", "many", "some", "at", "rest", "pile", "k"]) (sc := defScope s_law_elder) (by decide +kernel)) (fun _ _ _ _ _ => pg_name (i := 7) sc_law_elder.nd rfl (Or.inl rfl)) (fun _ _ _ _ _ => pts_nil) (fun _ _ _ _ _ => pe_int)))))))))), ?_⟩
  refine ⟨_, rfl, a, _, rfl, .inl (sq hS), ?_⟩
  rw [nlen]
  -- some
  refine ⟨_, rfl, _, rfl, by omega, by omega, fun D nD => lc_range (lo := 0) (n := (ns.length : Int).toNat) (fun i H' => Same H H' ∧ ∃ is : List Int, IL H' D is ∧ is.length ≤ i ∧ ∀ x ∈ is, ∃ (j : Nat) (p : Int), x = j ∧ ns[j]? = some p ∧ p ≥ (ns.length : Int) - 1)
    ⟨same_new nD _, [], upd_same, Nat.le_refl _, fun x hx => by cases hx⟩ ?_ ?_⟩
  · intro i H' hi h
    obtain ⟨sm, is, eD, hi2, hall⟩ := h
    have hi : i < ns.length := by omega
    refine ⟨rfl, _, rfl, _, rfl, a, _, _, .int ns[i], rfl, rfl, sq (sm _ _ hS), at_of (j := i) (by omega) (int_get (List.getElem?_eq_getElem hi)), _, rfl, _, _, rfl, rfl, _, _, rfl, rfl, _, rfl, ite2 (fun c => ?_) (fun c => ?_)⟩
    · have c' : (ns.length : Int) - 1 ≤ ns[i] := of_decide_eq_true c
      refine ⟨_, rfl, _, eD, by rw [nlen]; exact smallL (by omega), same_mut sm nD _, is ++ [(i : Int)], ?_, by rw [List.length_append, List.length_singleton]; omega, fun x hx => ?_⟩
      · show upd _ _ _ _ = _
        rw [upd_same, List.map_append, Int.zero_add] <;> rfl
      · rcases List.mem_append.mp hx with hx | hx
        · exact hall x hx
        · exact ⟨i, ns[i], List.mem_singleton.mp hx, List.getElem?_eq_getElem hi, c'⟩
    · exact ⟨sm, is, eD, by omega, hall⟩
  · intro H1 h
    obtain ⟨sm, is, eD, hi2, hall⟩ := h
    -- if len(some) == 0
    refine ⟨_, rfl, D, _, rfl, .inl (sq eD), rfl, _, rfl, ?_⟩
    rw [nlen]
    refine ite2 (fun c => ?_) (fun c => ?_)
    · exact ⟨_, rfl, q H1 a ns sm (sm _ _ hS) hset⟩
    · have hpos : 0 < is.length := by
        rcases Nat.eq_zero_or_pos is.length with e | e
        · exact absurd (decide_eq_true (by rw [e] <;> rfl)) c
        · exact e
      have hm1 := Int.emod_nonneg z (show (is.length : Int) ≠ 0 by omega)
      have hm2 := Int.emod_lt_of_pos z (show (0 : Int) < (is.length : Int) by omega)
      obtain ⟨J, hJ⟩ : ∃ J : Nat, z % (is.length : Int) = J := ⟨(z % (is.length : Int)).toNat, by omega⟩
      have hJl : J < is.length := by omega
      obtain ⟨j, p, ej, hp, hb⟩ := hall is[J] (List.getElem_mem hJl)
      have hjl : j < ns.length := (List.getElem?_eq_some_iff.mp hp).1
      refine ⟨_, rfl, _, rfl, _, rfl, D, _, rfl, .inl (sq eD), _, _, rfl, rfl, (by rw [nlen]; show (0 : Int) < _; omega), D, _, _, .int is[J], rfl, rfl, sq eD, at_of (j := J) (by rw [nlen]; exact hJ) (int_get (List.getElem?_eq_getElem hJl)), ?_⟩
      rw [ej]
      -- rest
      have hA1 : SqL K H1 a (ns.map V.int) := sq (sm _ _ hS)
      refine ⟨_, rfl, _, rfl, _, rfl, a, _, rfl, hA1, fun p1 n1 => ?_⟩
      rw [cut_to _ (by rw [nlen]; omega)]
      have sm1 := same_new n1 (.lst ((ns.map V.int).take j))
      refine ⟨_, rfl, _, rfl, _, _, rfl, rfl, (j : Int) + 1, rfl, a, _, rfl, sm1.seq hA1, fun p2 n2 => ?_⟩
      rw [show (j : Int) + 1 = ((j + 1 : Nat) : Int) by omega, cut_from _ (by rw [nlen]; omega)]
      have sm2 := same_new n2 (.lst ((ns.map V.int).drop (j + 1)))
      obtain ⟨s1, s2⟩ := take_drop_sum hp
      refine ⟨p1, p2, _, _, rfl, rfl, sm2 _ _ upd_same, upd_same, by rw [List.length_take, List.length_drop, nlen]; exact small (by omega), fun p3 n3 => ?_⟩
      have sm3 := same_new n3 (.lst ((ns.map V.int).take j ++ (ns.map V.int).drop (j + 1)))
      have e3 : IL (upd (upd (upd H1 p1 (.lst ((ns.map V.int).take j))) p2 (.lst ((ns.map V.int).drop (j + 1)))) p3 (.lst ((ns.map V.int).take j ++ (ns.map V.int).drop (j + 1)))) p3 (ns.take j ++ ns.drop (j + 1)) := by
        show upd _ _ _ _ = _
        rw [upd_same, List.map_append, List.map_take, List.map_drop]
      have smA := (sm1.trans sm2).trans sm3
      generalize (upd (upd (upd H1 p1 (.lst ((ns.map V.int).take j))) p2 (.lst ((ns.map V.int).drop (j + 1)))) p3 (.lst ((ns.map V.int).take j ++ (ns.map V.int).drop (j + 1)))) = H2 at *
      generalize hrs : ns.take j ++ ns.drop (j + 1) = rs at *
      refine ⟨p3, rfl, ⟨_, sq e3⟩, fun G nG => lc_list (K := K) (a := p3) (xs := rs.map V.int) (fun i H' => Same H2 H' ∧ IL H' G ((rs.take i).map (· + 1))) ⟨same_new nG _, upd_same⟩ (fun i H' _ h => sq (h.1 _ _ e3)) ?_ ?_⟩
      · intro i x H' hx h
        obtain ⟨y, hy, rfl⟩ := get_int hx
        obtain ⟨sm4, eG⟩ := h
        have hil : i < rs.length := (List.getElem?_eq_some_iff.mp hy).1
        refine ⟨rfl, _, rfl, _, _, rfl, rfl, _, eG, ?_, same_mut sm4 nG _, ?_⟩
        · rw [nlen, List.length_map, List.length_take]
          exact smallL (by omega)
        · show upd _ _ _ _ = _
          rw [upd_same, take_snoc hy, List.map_append, List.map_append] <;> rfl
      · intro H3 h
        obtain ⟨sm4, eG⟩ := h
        rw [nlen, List.take_length] at eG
        have smB := sm.trans (smA.trans sm4)
        have hA3 : SqL K H3 a (ns.map V.int) := sq (smB _ _ hS)
        have hpn : 1 ≤ p := hset.1.pos p (List.mem_of_getElem? hp)
        have hpn2 := hset.le (List.mem_of_getElem? hp)
        have hcnt : ((rs.map (· + 1)).map V.int).length = rs.length := by rw [nlen, List.length_map]
        -- rest + [1 for k in ..]
        refine ⟨_, rfl, _, rfl, _, rfl, a, _, _, .int p, rfl, rfl, hA3, at_of (j := j) rfl (int_get hp), _, rfl, G, _, rfl, .inl (sq eG), _, _, rfl, rfl, _, rfl, ?_⟩
        rw [hcnt]
        refine ⟨by omega, by omega, fun N nN => lc_range (lo := 0) (n := (p - (rs.length : Int)).toNat) (fun i H' => Same H3 H' ∧ IL H' N (List.replicate i 1)) ⟨same_new nN _, upd_same⟩ ?_ ?_⟩
        · intro i H' hi h
          obtain ⟨sm5, eN⟩ := h
          refine ⟨rfl, _, eN, by rw [nlen, List.length_replicate]; exact smallL (by omega), same_mut sm5 nN _, ?_⟩
          show upd _ _ _ _ = _
          rw [upd_same, List.replicate_succ', List.map_append] <;> rfl
        · intro H4 h
          obtain ⟨sm5, eN⟩ := h
          refine ⟨G, N, _, _, rfl, rfl, sm5 _ _ eG, eN, by rw [nlen, nlen, List.length_map, List.length_replicate]; exact small (by omega), fun r nr => ?_⟩
          refine q _ r (elderAt ns j p) ((smB.trans sm5).trans (same_new nr _)) ?_ (elder_set hset hp hb)
          show upd _ _ _ _ = _
          rw [upd_same, ← List.map_append]
          unfold elderAt
          rw [hrs, show (rs.length : Int) = (ns.length : Int) - 1 by omega]

end

section
variable {P : Program} {w : World} {K : PySem.W.Frag} {mg : Str → Option Value} {base : Heap}
theorem sc_law_drawn_piles : FnScope ["script", "k", "coins", "cap", "step", "piles", "left"] ["script", "k", "coins", "cap"] (defScope s_law_drawn_piles) := ⟨rfl, rfl, rfl, by decide +kernel, rfl, by decide +kernel, by decide +kernel⟩
def sp_law_drawn_piles (K : PySem.W.Frag) : Sp := fun vs H Q _ => ∃ (a : Addr) (ns : List Int) (k n c : Int), vs = [.ref a, .int k, .int n, .int c] ∧ SL K H a ns ∧ 0 ≤ k ∧ 1 ≤ n ∧ n ≤ 100 ∧ 1 ≤ c ∧
  ∀ ms : List Int, IsSet n ms → NL Q H ms
theorem ok_law_drawn_piles (T : Txt K mg) : Cal P w K mg base CX0 2 "_law_drawn_piles" ["script", "k", "coins", "cap"] (sp_law_drawn_piles K) := by
  have C_law_cell := ok_law_cell (P := P) (w := w) (base := base) T
  have C_law_fallen := ok_law_fallen (P := P) (w := w) (base := base) T
  have C_law_next := ok_law_next (P := P) (w := w) (base := base) T
  refine cal_mk T.d_law_drawn_piles sc_law_drawn_piles ?_ (fun _ _ _ _ _ _ us hl => match us, hl with | [_, _, _, _], _ => rfl) (fun f cdv A outer s H vs Q E hr h => ?_)
  · intro vs H Q E h
    obtain ⟨a, ns, k, n, c, rfl, _⟩ := h
    rfl
  obtain ⟨a, ns, k, n, c, rfl, hS, h0, h1, h2, h3, q⟩ := h
  refine ⟨_, (pss_cons (ps_set (i := 4) sc_law_drawn_piles.nd rfl (Or.inl rfl) (pe_callF C_law_next (hr.mono (by decide)) (pa_cons (pe_op op_add (pe_op op_mod (pe_op op_mul (pe_callF C_law_cell (hr.mono (by decide)) (pa_cons (pv 0) (pa_cons (pv 1) pa_nil))) pe_int) pe_int) pe_int) pa_nil)))
      (pss_cons (ps_set (i := 5) sc_law_drawn_piles.nd rfl (Or.inl rfl) (pe_lst pa_nil))
      (pss_cons (ps_set (i := 6) sc_law_drawn_piles.nd rfl (Or.inl rfl) (pv 2))
      (pss_cons (ps_while PassesOwn.never (pt_cmpR op_gt (pv 6) pe_int (nomark _))
      (pss_cons (ps_set (i := 4) sc_law_drawn_piles.nd rfl (Or.inl rfl) (pe_callF C_law_next (hr.mono (by decide)) (pa_cons (pv 4) pa_nil)))
      (pss_cons (ps_expr (pe_bm PySem.F.plainAttrs_list PySem.F.slot_list_append PySem.F.type_list_append mt_append (pv 5) (pa_cons (pe_op op_add pe_int (pe_op op_mod (pe_op op_fdiv (pv 4) pe_int) (pe_callB (call_min2 rfl) (by rfl) T.m_min (by decide +kernel) (pa_cons (pv 6) (pa_cons (pv 3) pa_nil))))) pa_nil)))
      (pss_one (ps_set (i := 6) sc_law_drawn_piles.nd rfl (Or.inl rfl) (pe_op op_sub (pv 6) (pe_ix ix_list (pv 5) (pe_un un_neg pe_int) (fun _ _ => rfl))))))))
      (pss_one (ps_ret (pe_callF C_law_fallen (hr.mono (by decide)) (pa_cons (pv 5) pa_nil)))))))), ?_⟩
  refine ⟨_, rfl, _, rfl, a, ns, k, rfl, hS, h0, fun z1 => ⟨_, _, rfl, rfl, .inr ⟨by decide, by decide⟩, _, _, rfl, rfl, (by show (0 : Int) < 2147483647; decide), _, _, rfl, rfl, _, rfl, fun z2 => ?_⟩⟩
  refine ⟨Nat.zero_le _, fun M nM => ?_⟩
  refine ⟨_, rfl, ?_⟩
  refine ⟨fun m σ H' => ∃ (z l : Int) (ms : List Int), σ = [some (.ref a), some (.int k), some (.int n), some (.int c), some (.int z), some (.ref M), some (.int l)] ∧ Same H H' ∧ IL H' M ms ∧ (∀ x ∈ ms, 1 ≤ x) ∧ 0 ≤ l ∧ ms.sum + l = n ∧ m = l.toNat,
    ⟨_, z2, n, [], rfl, same_new nM _, upd_same, (fun x hx => by cases hx), by omega, by show (0 : Int) + n = n; omega, rfl⟩, fun m σ H' hW => ?_⟩
  obtain ⟨z, l, ms, rfl, sm, eM, hp, hl, hsum, rfl⟩ := hW
  have hlen := len_le_sum hp
  refine ⟨_, rfl, _, _, rfl, rfl, _, rfl, ite2 (fun t => ?_) (fun t => ?_)⟩
  · have t' : 0 < l := of_decide_eq_true t
    refine ⟨fun σ' H2 => ∃ (z l' : Int) (ms : List Int), σ' = [some (.ref a), some (.int k), some (.int n), some (.int c), some (.int z), some (.ref M), some (.int l')] ∧ Same H H2 ∧ IL H2 M ms ∧ (∀ x ∈ ms, 1 ≤ x) ∧ 0 ≤ l' ∧ ms.sum + l' = n ∧ l' < l, fun σ' H2 h => ?_, ?_⟩
    · obtain ⟨z, l', ms, e, a1, a2, a3, a4, a5, a6⟩ := h
      exact ⟨l'.toNat, by omega, z, l', ms, e, a1, a2, a3, a4, a5, rfl⟩
    · refine ⟨_, rfl, z, rfl, fun z3 => ?_⟩
      have hmin : (1 : Int) ≤ (if c < l then c else l) ∧ (if c < l then c else l) ≤ l := by
        by_cases h : c < l
        · rw [if_pos h]
          omega
        · rw [if_neg h]
          omega
      generalize hg : (if c < l then c else l) = g at hmin
      have hm1 := Int.emod_nonneg (z3 / 64) (show g ≠ 0 by omega)
      have hm2 := Int.emod_lt_of_pos (z3 / 64) (show 0 < g by omega)
      refine ⟨_, rfl, Or.inl ⟨rfl, _, sq eM⟩, _, rfl, _, _, rfl, rfl, ⟨by decide, by decide⟩, _, rfl, _, rfl, l, c, rfl, ?_⟩
      rw [hg]
      refine ⟨_, _, rfl, rfl, (by show (0 : Int) < g; omega), _, _, rfl, rfl, M, ms.map V.int, _, rfl, rfl, eM, by rw [nlen]; exact smallL (by omega), ?_⟩
      refine ⟨_, rfl, _, rfl, _, rfl, M, _, _, .int (1 + (z3 / 64) % g), rfl, rfl, sq upd_same, atI_last _ _, _, _, rfl, rfl, ?_⟩
      refine ⟨z3, l - (1 + (z3 / 64) % g), ms ++ [1 + (z3 / 64) % g], rfl, same_mut sm nM _, ?_, fun y hy => ?_, by omega, ?_, by omega⟩
      · show upd _ _ _ _ = _
        rw [upd_same, List.map_append] <;> rfl
      · rcases List.mem_append.mp hy with hy | hy
        · exact hp y hy
        · rw [List.mem_singleton.mp hy]
          omega
      · rw [List.sum_append, List.sum_cons, List.sum_nil]
        omega
  · have t' : ¬ 0 < l := fun h => t (decide_eq_true h)
    have hs : ms.sum = n := by omega
    refine ⟨_, rfl, M, ms, rfl, eM, fun H2 p s2 np ep => q (fall ms) ⟨⟨fun x hx => hp x ((fall_perm ms).mem_iff.mp hx), fall_falls ms, fun e => ?_⟩, by rw [fall_sum]; exact hs⟩ H2 p (sm.trans s2) (sm.free np) ep⟩
    have := fall_sum ms
    rw [e, hs] at this
    have : (0 : Int) = n := this
    omega

end

section
variable {P : Program} {w : World} {K : PySem.W.Frag} {mg : Str → Option Value} {base : Heap}
theorem sc_law_setting : FnScope ["script", "k", "coins", "way", "cap", "j", "piles", "step", "turn"] ["script", "k", "coins"] (defScope s_law_setting) := ⟨rfl, rfl, rfl, by decide +kernel, rfl, by decide +kernel, by decide +kernel⟩
def sp_law_setting (K : PySem.W.Frag) : Sp := fun vs H Q _ => ∃ (a : Addr) (ns : List Int) (k : Int) (n : Nat), vs = [.ref a, .int k, .int n] ∧ SL K H a ns ∧ 0 ≤ k ∧ 1 ≤ n ∧ n ≤ 100 ∧
  ∀ ms : List Int, IsSet n ms → ∀ H' p, Same H H' → IL H' p ms → Q (.ref p) H'
theorem ones_set {n : Nat} (h : 1 ≤ n) : IsSet n (List.replicate n 1) := by
  refine ⟨⟨fun x hx => by rw [List.eq_of_mem_replicate hx]; exact Int.le_refl 1, List.pairwise_replicate.mpr (.inr (Int.le_refl 1)), fun e => ?_⟩, sum_replicate n⟩
  have := congrArg List.length e
  rw [List.length_replicate, List.length_nil] at this
  omega
theorem one_set {n : Nat} (h : 1 ≤ n) : IsSet n [(n : Int)] :=
  ⟨⟨fun x hx => by rw [List.mem_singleton.mp hx]; omega, List.pairwise_singleton _ _, List.cons_ne_nil _ _⟩, by rw [List.sum_cons, List.sum_nil]; omega⟩
theorem ok_law_setting (T : Txt K mg) : Cal P w K mg base CX0 3 "_law_setting" ["script", "k", "coins"] (sp_law_setting K) := by
  have C_law_by_marks := ok_law_by_marks (P := P) (w := w) (base := base) T
  have C_law_cell := ok_law_cell (P := P) (w := w) (base := base) T
  have C_law_drawn_marks := ok_law_drawn_marks (P := P) (w := w) (base := base) T
  have C_law_drawn_piles := ok_law_drawn_piles (P := P) (w := w) (base := base) T
  have C_law_elder := ok_law_elder (P := P) (w := w) (base := base) T
  have C_law_next := ok_law_next (P := P) (w := w) (base := base) T
  refine cal_mk T.d_law_setting sc_law_setting ?_ (fun _ _ _ _ _ _ us hl => match us, hl with | [_, _, _], _ => rfl) (fun f cdv A outer s H vs Q E hr h => ?_)
  · intro vs H Q E h
    obtain ⟨a, ns, k, n, rfl, _⟩ := h
    rfl
  obtain ⟨a, ns, k, n, rfl, hS, h0, h1, h2, q⟩ := h
  have hs := stair_le h1 (b := 14) (by omega) (by omega)
  refine ⟨_, (pss_cons (ps_set (i := 3) sc_law_setting.nd rfl (Or.inl rfl) (pe_op op_mod (pe_callF C_law_cell (hr.mono (by decide)) (pa_cons (pv 0) (pa_cons (pv 1) pa_nil))) pe_int))
      (pss_cons (ps_set (i := 4) sc_law_setting.nd rfl (Or.inl rfl) (pe_op op_add pe_int (pe_op op_mod (pe_callF C_law_cell (hr.mono (by decide)) (pa_cons (pv 0) (pa_cons (pe_op op_add (pv 1) pe_int) pa_nil))) (pv 2))))
      (pss_cons (ps_if (PW.pt (pw_or (pt_cmpR op_eq (pv 3) pe_int (nomark _)) (pw_or1 (pt_cmpR op_eq (pv 3) pe_int (nomark _)))))
      (pss_one (ps_ret (pe_callF C_law_drawn_piles (hr.mono (by decide)) (pa_cons (pv 0) (pa_cons (pe_op op_add (pv 1) pe_int) (pa_cons (pv 2) (pa_cons (pv 4) pa_nil))))))) pss_nil)
      (pss_cons (ps_if (pt_cmpR op_eq (pv 3) pe_int (nomark _))
      (pss_one (ps_ret (pe_ix ix_list (pe_lst (pa_cons (pe_lst (pa_cons (pv 2) pa_nil)) (pa_cons (pe_lc (own := [("j", 5)]) (g := gName 5) rfl sc_law_setting.nd (pi_range1 (by rfl) T.m_range (pa_cons (pv 2) pa_nil)) (blkOk_by (own := [("j", 5)]) (N := ["script", "k", "coins", "way", "cap", "j", "piles", "step", "turn"]) (sc := defScope s_law_setting) (by decide +kernel)) (fun _ _ _ _ _ => pg_name (i := 5) sc_law_setting.nd rfl (Or.inl rfl)) (fun _ _ _ _ _ => pts_nil) (fun _ _ _ _ _ => pe_int)) pa_nil))) (pe_op op_mod (pe_callF C_law_cell (hr.mono (by decide)) (pa_cons (pv 0) (pa_cons (pe_op op_add (pv 1) pe_int) pa_nil))) pe_int) (fun _ _ => rfl)))) pss_nil)
      (pss_cons (ps_set (i := 6) sc_law_setting.nd rfl (Or.inl rfl) (pe_callF C_law_by_marks (hr.mono (by decide)) (pa_cons (pe_callF C_law_drawn_marks (hr.mono (by decide)) (pa_cons (pv 0) (pa_cons (pe_op op_add (pv 1) pe_int) (pa_cons (pv 2) pa_nil)))) pa_nil)))
      (pss_cons (ps_set (i := 7) sc_law_setting.nd rfl (Or.inl rfl) (pe_callF C_law_next (hr.mono (by decide)) (pa_cons (pe_op op_add (pe_op op_mod (pe_op op_mul (pe_callF C_law_cell (hr.mono (by decide)) (pa_cons (pv 0) (pa_cons (pe_op op_add (pv 1) pe_int) pa_nil))) pe_int) pe_int) pe_int) pa_nil)))
      (pss_cons (ps_if (pt_cmpR op_gt (pv 3) pe_int (nomark _))
      (pss_one (ps_for PassesOwn.never rfl (pi_range1 (by rfl) T.m_range (pa_cons (pe_op op_mod (pe_callF C_law_cell (hr.mono (by decide)) (pa_cons (pv 0) (pa_cons (pe_op op_add (pv 1) pe_int) pa_nil))) pe_int) pa_nil)) (pg_name (i := 8) sc_law_setting.nd rfl (Or.inl rfl))
      (pss_cons (ps_set (i := 7) sc_law_setting.nd rfl (Or.inl rfl) (pe_callF C_law_next (hr.mono (by decide)) (pa_cons (pv 7) pa_nil)))
      (pss_one (ps_set (i := 6) sc_law_setting.nd rfl (Or.inl rfl) (pe_callF C_law_elder (hr.mono (by decide)) (pa_cons (pv 6) (pa_cons (pe_op op_fdiv (pv 7) pe_int) pa_nil)))))))) pss_nil)
      (pss_one (ps_ret (pv 6)))))))))), ?_⟩
  -- way, cap
  refine ⟨_, rfl, _, rfl, a, ns, k, rfl, hS, h0, fun z1 => ⟨_, _, rfl, rfl, (by show (0 : Int) < 6; decide), ?_⟩⟩
  refine ⟨_, rfl, _, rfl, _, _, rfl, rfl, a, ns, k + 1, rfl, hS, by omega, fun z2 => ⟨_, rfl, _, _, rfl, rfl, (by show (0 : Int) < (n : Int); omega), _, _, rfl, rfl, ?_⟩⟩
  have hc1 := Int.emod_nonneg z2 (show (n : Int) ≠ 0 by omega)
  -- way == 0 or way == 1
  refine ⟨_, rfl, rfl, _, rfl, ite2 (fun _ => ?w0) (fun _ => ⟨_, rfl, rfl, _, rfl, ite2 (fun _ => ?w1) (fun _ => ?_)⟩)⟩
  case' w0 => skip
  case' w1 => skip
  iterate 2
    · exact ⟨_, rfl, _, rfl, _, _, rfl, rfl, _, rfl, _, rfl, a, ns, k + 2, n, 1 + z2 % (n : Int), rfl, hS, by omega, by omega, by omega, by omega, fun ms hm H' p sm _ ep => q ms hm H' p sm ep⟩
  -- way == 2
  refine ⟨_, rfl, rfl, _, rfl, ite2 (fun _ => ?_) (fun _ => ?_)⟩
  · refine ⟨_, rfl, (by show 1 ≤ sizeLine; decide), fun p1 n1 => ?_⟩
    have sm1 := same_new n1 (.lst [.int n])
    refine ⟨_, rfl, n, rfl, by omega, by omega, fun D nD => lc_range (lo := 0) (n := (n : Int).toNat) (fun i H' => Same (upd H p1 (.lst [.int n])) H' ∧ IL H' D (List.replicate i 1)) ⟨same_new nD _, upd_same⟩ ?_ ?_⟩
    · intro i H' hi h
      obtain ⟨sm, eD⟩ := h
      refine ⟨rfl, _, eD, by rw [nlen, List.length_replicate]; exact smallL (by omega), same_mut sm nD _, ?_⟩
      show upd _ _ _ _ = _
      rw [upd_same, List.replicate_succ', List.map_append] <;> rfl
    · intro H1 h
      obtain ⟨sm, eD⟩ := h
      refine ⟨(by show 2 ≤ sizeLine; decide), fun p2 n2 => ?_⟩
      have smA := (sm1.trans sm).trans (same_new n2 (.lst [.ref p1, .ref D]))
      have e1 : IL (upd H1 p2 (.lst [.ref p1, .ref D])) p1 [(n : Int)] := same_new n2 _ _ _ (sm _ _ upd_same)
      have e2 : IL (upd H1 p2 (.lst [.ref p1, .ref D])) D (List.replicate (n : Int).toNat 1) := same_new n2 _ _ _ eD
      refine ⟨_, rfl, _, rfl, _, _, rfl, rfl, a, ns, k + 1, rfl, smA.seq hS, by omega, fun z3 => ⟨_, _, rfl, rfl, (by show (0 : Int) < 2; decide), ?_⟩⟩
      have hz := Int.emod_two_eq z3
      rcases hz with hz | hz
      · exact ⟨p2, _, _, .ref p1, rfl, rfl, sq upd_same, at_of (j := 0) hz rfl, q _ (one_set h1) _ _ smA e1⟩
      · exact ⟨p2, _, _, .ref D, rfl, rfl, sq upd_same, at_of (j := 1) hz rfl, q _ (by rw [Int.toNat_natCast]; exact ones_set h1) _ _ smA e2⟩
  · -- round ones and elders
    refine ⟨_, rfl, _, rfl, _, _, rfl, rfl, _, rfl, a, ns, k + 2, n, rfl, hS, by omega, h1, h2, fun ms hb hl hsum H1 p1 sm1 n1 e1 => ?_⟩
    refine ⟨p1, ms, rfl, e1, by omega, fun H2 p2 sm2 n2 e2 => ?_⟩
    have hset := ofMarks_set h1 hb hl hsum
    have smA := sm1.trans sm2
    refine ⟨_, rfl, _, rfl, _, _, rfl, rfl, a, ns, k + 3, rfl, smA.seq hS, by omega, fun z3 => ⟨_, _, rfl, rfl, .inr ⟨by decide, by decide⟩, _, _, rfl, rfl, (by show (0 : Int) < 2147483647; decide), _, _, rfl, rfl, _, rfl, fun z4 => ?_⟩⟩
    refine ⟨_, rfl, _, _, rfl, rfl, _, rfl, ite2 (fun _ => ?_) (fun _ => ?_)⟩
    · refine ⟨_, rfl, _, rfl, _, _, rfl, rfl, a, ns, k + 1, rfl, smA.seq hS, by omega, fun z5 => ⟨_, _, rfl, rfl, (by show (0 : Int) < 120; decide), ?_⟩⟩
      have hm1 := Int.emod_nonneg z5 (show (120 : Int) ≠ 0 by decide)
      have hm2 := Int.emod_lt_of_pos z5 (show (0 : Int) < 120 by decide)
      refine ⟨_, rfl, by omega, by omega, for_range (lo := 0) (n := (z5 % 120).toNat) (fun i σ H' => ∃ (p : Addr) (z : Int) (y : Option V) (ms : List Int), σ = [some (.ref a), some (.int k), some (.int n), some (.int (z1 % 6)), some (.int (1 + z2 % (n : Int))), none, some (.ref p), some (.int z), y] ∧ Same H H' ∧ IL H' p ms ∧ IsSet n ms)
        ⟨p2, z4, none, ofMarks ms, rfl, smA, e2, hset⟩ ?_ ?_⟩
      · intro i σ H' hi h
        obtain ⟨p, z, y, ms', rfl, sm, ep, hset⟩ := h
        refine ⟨_, rfl, z, rfl, fun z6 => ?_⟩
        exact ⟨_, rfl, _, rfl, _, _, rfl, rfl, ⟨by decide, by decide⟩, p, ms', z6 / 64, n, rfl, ep, hset, by omega, fun H3 p3 ms3 sm3 ep3 hset3 => ⟨p3, z6, _, ms3, rfl, sm.trans sm3, ep3, hset3⟩⟩
      · intro σ H' h
        obtain ⟨p, z, y, ms', rfl, sm, ep, hset⟩ := h
        exact ⟨_, rfl, q ms' hset H' p sm ep⟩
    · exact ⟨_, rfl, q _ hset H2 p2 smA e2⟩

end

section
variable {P : Program} {w : World} {K : PySem.W.Frag} {mg : Str → Option Value} {base : Heap}
theorem sc_law_ints : FnScope ["found", "due", "k"] ["found", "due"] (defScope s_law_ints) := ⟨rfl, rfl, rfl, by decide +kernel, rfl, by decide +kernel, by decide +kernel⟩
def sp_law_ints : Sp := fun vs H Q _ => ∃ (f d : Addr) (xs ns : List Int), vs = [.ref f, .ref d] ∧ IL H f xs ∧ IL H d ns ∧ ns.length ≤ 100000 ∧ Q (.bl (decide (xs = ns))) H
theorem ok_law_ints (T : Txt K mg) : Cal P w K mg base CX0 1 "_law_ints" ["found", "due"] sp_law_ints := by
  refine cal_mk T.d_law_ints sc_law_ints ?_ (fun _ _ _ _ _ _ us hl => match us, hl with | [_, _], _ => rfl) (fun f cdv A outer s H vs Q E hr h => ?_)
  · intro vs H Q E h
    obtain ⟨f, d, xs, ns, rfl, _⟩ := h
    rfl
  obtain ⟨f, d, xs, ns, rfl, hF, hD, hl, q⟩ := h
  refine ⟨_, (pss_cons (ps_if (PW.pt (pw_or (pt_not (pt_val (pe_callB call_isi (by rfl) T.m_isinstance (by decide +kernel) (pa_cons (pv 0) (pa_cons (pe_bltn (v := .ty "list") (by rfl) T.m_list (by decide +kernel) rfl) pa_nil))))) (pw_or1 (pt_cmpR op_ne (pe_callB call_len_seq (by rfl) T.m_len PySem.boot_len (pa_cons (pv 0) pa_nil)) (pe_callB call_len_seq (by rfl) T.m_len PySem.boot_len (pa_cons (pv 1) pa_nil)) (nomark _)))))
      (pss_one (ps_ret pe_bl)) pss_nil)
      (pss_cons (ps_for PassesOwn.never rfl (pi_range1 (by rfl) T.m_range (pa_cons (pe_callB call_len_seq (by rfl) T.m_len PySem.boot_len (pa_cons (pv 1) pa_nil)) pa_nil)) (pg_name (i := 2) sc_law_ints.nd rfl (Or.inl rfl))
      (pss_one (ps_if (PW.pt (pw_or (pt_not (pt_val (pe_callB call_isi (by rfl) T.m_isinstance (by decide +kernel) (pa_cons (pe_ix ix_list (pv 0) (pv 2) (fun _ _ => rfl)) (pa_cons (pe_bltn (v := .ty "int") (by rfl) T.m_int (by decide +kernel) rfl) pa_nil))))) (pw_or (pt_val (pe_callB call_isi (by rfl) T.m_isinstance (by decide +kernel) (pa_cons (pe_ix ix_list (pv 0) (pv 2) (fun _ _ => rfl)) (pa_cons (pe_bltn (v := .ty "bool") (by rfl) T.m_bool (by decide +kernel) rfl) pa_nil)))) (pw_or1 (pt_cmpR op_ne (pe_ix ix_list (pv 0) (pv 2) (fun _ _ => rfl)) (pe_ix ix_list (pv 1) (pv 2) (fun _ _ => rfl)) (nomark _))))))
      (pss_one (ps_ret pe_bl)) pss_nil)))
      (pss_one (ps_ret pe_bl)))), ?_⟩
  -- not a list, or of another length
  refine ⟨_, rfl, _, .ty "list", .type "list", .type "list", true, rfl, ClsV.ty _, .base (.lst hF), kit_ty (by decide +kernel), true, rfl, ?_⟩
  refine ⟨_, rfl, f, _, rfl, .inl (sq hF), _, rfl, d, _, rfl, .inl (sq hD), rfl, _, rfl, ?_⟩
  rw [nlen, nlen]
  refine ite2 (fun c => ?_) (fun c => ?_)
  · have c' : ¬ xs = ns := fun e => by
      rw [e] at c
      simp at c
    rw [decide_eq_false c'] at q
    exact q
  · have hlen : xs.length = ns.length := by
      have : ¬ ¬ (V.int (xs.length : Int) = V.int (ns.length : Int)) := fun h => c (by rw [decide_eq_false h] <;> rfl)
      have := V.int.inj (Decidable.not_not.mp this)
      omega
    refine ⟨_, rfl, d, _, rfl, .inl (sq hD), _, rfl, by rw [nlen]; omega, by rw [nlen]; omega, for_range (lo := 0) (n := ((ns.map V.int).length : Int).toNat) (fun i σ H' => ∃ y, σ = [some (.ref f), some (.ref d), y] ∧ H' = H ∧ xs.take i = ns.take i) ⟨none, rfl, rfl, rfl⟩ ?_ ?_⟩
    · intro i σ H' hi h
      obtain ⟨y, rfl, rfl, ht⟩ := h
      rw [nlen] at hi
      have hi : i < ns.length := by omega
      have gx : xs[i]? = some xs[i] := List.getElem?_eq_getElem (by omega)
      have gn : ns[i]? = some ns[i] := List.getElem?_eq_getElem hi
      have ax : atI (xs.map V.int) (0 + (i : Int)) = some (.int xs[i]) := at_of (j := i) (by omega) (int_get gx)
      have an : atI (ns.map V.int) (0 + (i : Int)) = some (.int ns[i]) := at_of (j := i) (by omega) (int_get gn)
      refine ⟨_, rfl, _, rfl, f, _, _, .int xs[i], rfl, rfl, sq hF, ax, .int xs[i], .ty "int", .type "int", .type "int", true, rfl, ClsV.ty _, .base (.int _), kit_ty (by decide +kernel), true, rfl, ?_⟩
      refine ⟨_, rfl, _, rfl, f, _, _, .int xs[i], rfl, rfl, sq hF, ax, .int xs[i], .ty "bool", .type "int", .type "bool", false, rfl, ClsV.ty _, .base (.int _), kit_ty (by decide +kernel), false, rfl, ?_⟩
      refine ⟨_, rfl, _, rfl, f, _, _, .int xs[i], rfl, rfl, sq hF, ax, _, rfl, _, rfl, d, _, _, .int ns[i], rfl, rfl, sq hD, an, rfl, _, rfl, ite2 (fun c => ?_) (fun c => ?_)⟩
      · have c' : ¬ xs = ns := fun e => by
          subst e
          simp at c
        rw [decide_eq_false c'] at q
        exact q
      · have e : xs[i] = ns[i] := by
          have : ¬ ¬ (V.int xs[i] = V.int ns[i]) := fun h => c (by rw [decide_eq_false h] <;> rfl)
          exact V.int.inj (Decidable.not_not.mp this)
        exact ⟨_, rfl, rfl, by rw [take_snoc gx, take_snoc gn, ht, e]⟩
    · intro σ H' h
      obtain ⟨y, rfl, rfl, ht⟩ := h
      rw [nlen, Int.toNat_natCast, ← hlen, List.take_length, hlen, List.take_length] at ht
      rw [decide_eq_true ht] at q
      exact q

end

section
variable {P : Program} {w : World} {K : PySem.W.Frag} {mg : Str → Option Value} {base : Heap}
theorem sc_law_lists_like : FnScope ["found", "due", "one", "other"] ["found", "due"] (defScope s_law_lists_like) := ⟨rfl, rfl, rfl, by decide +kernel, rfl, by decide +kernel, by decide +kernel⟩
def sp_law_lists_like : Sp := fun vs H Q _ => ∃ (f d : Addr) (fs ds : List Addr) (xs ns : List (List Int)), vs = [.ref f, .ref d] ∧ LL H f fs xs ∧ LL H d ds ns ∧ (∀ n ∈ ns, n.length ≤ 1000) ∧ ∀ H', Same H H' → Q (.bl (decide (xs = ns))) H'
theorem ok_law_lists_like (T : Txt K mg) : Cal P w K mg base CX0 2 "_law_lists_like" ["found", "due"] sp_law_lists_like := by
  have C_law_ints := ok_law_ints (P := P) (w := w) (base := base) T
  refine cal_mk T.d_law_lists_like sc_law_lists_like ?_ (fun _ _ _ _ _ _ us hl => match us, hl with | [_, _], _ => rfl) (fun f cdv A outer s H vs Q E hr h => ?_)
  · intro vs H Q E h
    obtain ⟨f, d, fs, ds, xs, ns, rfl, _⟩ := h
    rfl
  obtain ⟨f, d, fs, ds, xs, ns, rfl, ⟨hF, hfs⟩, ⟨hD, hds⟩, hl, q⟩ := h
  have l1 := hfs.len
  have l2 := hds.len
  refine ⟨_, (pss_cons (ps_if (PW.pt (pw_or (pt_not (pt_val (pe_callB call_isi (by rfl) T.m_isinstance (by decide +kernel) (pa_cons (pv 0) (pa_cons (pe_bltn (v := .ty "list") (by rfl) T.m_list (by decide +kernel) rfl) pa_nil))))) (pw_or1 (pt_cmpR op_ne (pe_callB call_len_seq (by rfl) T.m_len PySem.boot_len (pa_cons (pv 0) pa_nil)) (pe_callB call_len_seq (by rfl) T.m_len PySem.boot_len (pa_cons (pv 1) pa_nil)) (nomark _)))))
      (pss_one (ps_ret pe_bl)) pss_nil)
      (pss_cons (ps_for PassesOwn.never rfl (pi_zip (by rfl) T.m_zip (pa_cons (pv 0) (pa_cons (pv 1) pa_nil))) (pg_tup rfl (pgs_cons (pg_name (i := 2) sc_law_lists_like.nd rfl (Or.inl rfl)) (pgs_cons (pg_name (i := 3) sc_law_lists_like.nd rfl (Or.inl rfl)) pgs_nil)))
      (pss_one (ps_if (pt_not (pt_val (pe_callF C_law_ints (hr.mono (by decide)) (pa_cons (pv 2) (pa_cons (pv 3) pa_nil)))))
      (pss_one (ps_ret pe_bl)) pss_nil)))
      (pss_one (ps_ret pe_bl)))), ?_⟩
  refine ⟨_, rfl, _, .ty "list", .type "list", .type "list", true, rfl, ClsV.ty _, .base (.lst hF), kit_ty (by decide +kernel), true, rfl, ?_⟩
  refine ⟨_, rfl, f, _, rfl, .inl (sq hF), _, rfl, d, _, rfl, .inl (sq hD), rfl, _, rfl, ite2 (fun c => ?_) (fun c => ?_)⟩
  · have c' : ¬ xs = ns := fun e => by
      rw [rlen, rlen, l1, l2, e] at c
      simp at c
    have := q H (Same.refl H)
    rw [decide_eq_false c'] at this
    exact this
  · have hlen : fs.length = ds.length := by
      have : ¬ ¬ (V.int ((fs.map V.ref).length : Int) = V.int ((ds.map V.ref).length : Int)) := fun h => c (by rw [decide_eq_false h] <;> rfl)
      have := V.int.inj (Decidable.not_not.mp this)
      rw [rlen, rlen] at this
      omega
    refine ⟨_, rfl, _, rfl, f, d, _, _, rfl, sq hF, sq hD, RZ.for_zipL (K := K) (xs := fs.map V.ref) (ys := ds.map V.ref) (by rw [rlen, rlen, hlen]) (fun i σ H' => ∃ y1 y2, σ = [some (.ref f), some (.ref d), y1, y2] ∧ Same H H' ∧ xs.take i = ns.take i)
      ⟨none, none, rfl, Same.refl H, rfl⟩ (fun i σ H' h => by obtain ⟨_, _, _, sm, _⟩ := h; exact ⟨sq (sm _ _ hF), sq (sm _ _ hD)⟩) ?_ ?_⟩
    · intro i x y Tp σ H' hx hy h nT
      obtain ⟨y1, y2, rfl, sm, ht⟩ := h
      obtain ⟨fa, hfa, rfl⟩ := get_ref hx
      obtain ⟨da, hda, rfl⟩ := get_ref hy
      have sT := same_new nT (.tup [V.ref fa, V.ref da])
      obtain ⟨m, hm, efa⟩ := hfs.get hfa
      obtain ⟨n, hn, eda⟩ := hds.get hda
      refine ⟨Tp, [.ref fa, .ref da], rfl, .inl (.inl upd_same), rfl, .ref fa, [.ref da], rfl, .ref da, [], rfl, rfl, ?_⟩
      refine ⟨_, rfl, _, rfl, fa, da, m, n, rfl, sT _ _ (sm _ _ efa), sT _ _ (sm _ _ eda), by have := hl n (List.mem_of_getElem? hn); omega, _, rfl, ?_⟩
      refine ite2 (fun c => ?_) (fun c => ?_)
      · have c' : ¬ xs = ns := fun e => by
          subst e
          rw [hm] at hn
          obtain rfl := Option.some.inj hn
          simp at c
        have := q _ (sm.trans sT)
        rw [decide_eq_false c'] at this
        exact this
      · have e : m = n := by
          by_cases e : m = n
          · exact e
          · exact absurd (by rw [decide_eq_false e] <;> rfl) c
        exact ⟨_, _, rfl, sm.trans sT, by rw [take_snoc hm, take_snoc hn, ht, e]⟩
    · intro σ H' h
      obtain ⟨y1, y2, rfl, sm, ht⟩ := h
      have e : xs = ns := by
        rw [rlen] at ht
        rwa [List.take_of_length_le (by omega), List.take_of_length_le (by omega)] at ht
      have := q H' sm
      rw [decide_eq_true e] at this
      exact this

end

/-! ### the law -/
def spLaw (K : PySem.W.Frag) : Sp := fun vs H Q _ => ∃ (a : Addr) (ns : List Int), vs = [.ref a] ∧ SL K H a ns ∧ ns.length ≤ 63 ∧ ∀ H', Q (.bl true) H'
theorem nat_of {z : Int} {m : Int} (h : 0 < m) : ∃ n : Nat, 1 + z % m = (n : Int) ∧ 1 ≤ n ∧ (n : Int) ≤ m := by
  have h1 := Int.emod_nonneg z (show m ≠ 0 by omega)
  have h2 := Int.emod_lt_of_pos z h
  exact ⟨(1 + z % m).toNat, by omega, by omega, by omega⟩

section
variable {P : Program} {w : World} {K : PySem.W.Frag} {mg : Str → Option Value} {base : Heap}
theorem sc_law : FnScope ["script", "stair", "piles", "stairs", "k", "found"] ["script"] (defScope s_law) := ⟨rfl, rfl, rfl, by decide +kernel, rfl, by decide +kernel, by decide +kernel⟩
theorem tri_nums : ∀ k : Fin 14, 1 ≤ k.1 → 1 ≤ k.1 * (k.1 + 1) / 2 ∧ k.1 * (k.1 + 1) / 2 ≤ 91 ∧ 2 * (k.1 * (k.1 + 1) / 2) = k.1 * (k.1 + 1) ∧ k.1 * k.1 - k.1 ≤ 200 ∧ (k.1 : Int) * ((k.1 : Int) - 1) = ((k.1 * k.1 - k.1 : Nat) : Int) ∧ (k.1 : Int) * ((k.1 : Int) + 1) / 2 = ((k.1 * (k.1 + 1) / 2 : Nat) : Int) := by decide +kernel
theorem ok_law_at (T : Txt K mg) {f : Addr} {fd : FuncData} (F : FunD K "law" "law" (defArgs s_law) (defBody s_law) (defScope s_law) [] [] f fd) : FnOk P w K mg base CX0 4 f fd ["script"] (spLaw K) := by
  have C_law_cell := ok_law_cell (P := P) (w := w) (base := base) T
  have C_law_ints := ok_law_ints (P := P) (w := w) (base := base) T
  have C_law_lists_like := ok_law_lists_like (P := P) (w := w) (base := base) T
  have C_law_setting := ok_law_setting (P := P) (w := w) (base := base) T
  have C_law_whole := ok_law_whole (P := P) (w := w) (base := base) T
  have C_after := ok_after (P := P) (w := w) (base := base) T
  have C_ring_of := ok_ring_of (P := P) (w := w) (base := base) T
  have C_way_of := ok_way_of (P := P) (w := w) (base := base) T
  refine F.ok sc_law (fun vs H Q E h => ?_) (fun cdv A outer s H vs Q E hr h => ?_)
  · obtain ⟨a, ns, rfl, _⟩ := h
    rfl
  obtain ⟨a, ns, rfl, hS, hlen, q⟩ := h
  refine ⟨_, PSs.nox ((pss_cons (ps_set (i := 1) sc_law.nd rfl (Or.inr rfl) (pe_op op_add pe_int (pe_op op_mod (pe_callF C_law_cell (hr.mono (by decide)) (pa_cons (pv 0) (pa_cons pe_int pa_nil))) pe_int)))
      (pss_cons (ps_set (i := 2) sc_law.nd rfl (Or.inl rfl) (pe_callF C_law_setting (hr.mono (by decide)) (pa_cons (pv 0) (pa_cons pe_int (pa_cons (pe_op op_fdiv (pe_op op_mul (pv 1) (pe_op op_add (pv 1) pe_int)) pe_int) pa_nil)))))
      (pss_cons (ps_setLc (i := 3) (own := [("k", 4)]) (g := gName 4) rfl sc_law.nd rfl rfl (sw_true rfl rfl rfl (by decide +kernel)) (pi_range1 (by rfl) T.m_range (pa_cons (pv 1) pa_nil)) (blkOk_by (own := [("k", 4)]) (N := ["script", "stair", "piles", "stairs", "k", "found"]) (sc := defScope s_law) (by decide +kernel)) (fun _ _ _ _ _ => pg_name (i := 4) sc_law.nd rfl (Or.inl rfl)) (fun _ _ _ _ _ => pts_nil) (fun _ _ _ _ _ => (pe_op op_sub (pv 1) (pv 4))))
      (pss_cons (ps_set (i := 5) sc_law.nd rfl (Or.inl rfl) (pe_callF C_way_of (hr.mono (by decide)) (pa_cons (pe_callTy (T := "list") call_list_of (by rfl) T.m_list (by decide +kernel) (pa_cons (pv 2) pa_nil)) pa_nil)))
      (pss_cons (ps_if (PW.pt (pw_or (pt_not (pt_val (pe_callF C_law_whole (hr.mono (by decide)) (pa_cons (pv 5) pa_nil)))) (pw_or1 (pt_not (pt_chain op_le op_le pe_int (pv 5) (pe_op op_mul (pv 1) (pe_op op_sub (pv 1) pe_int)))))))
      (pss_one (ps_ret pe_bl)) pss_nil)
      (pss_cons (ps_if (pt_not (pt_val (pe_callF C_law_lists_like (hr.mono (by decide)) (pa_cons (pe_callF C_ring_of (hr.mono (by decide)) (pa_cons (pe_callTy (T := "list") call_list_of (by rfl) T.m_list (by decide +kernel) (pa_cons (pv 2) pa_nil)) pa_nil)) (pa_cons (pe_lst (pa_cons (pv 3) pa_nil)) pa_nil)))))
      (pss_one (ps_ret pe_bl)) pss_nil)
      (pss_one (ps_ret (pe_callF C_law_ints (hr.mono (by decide)) (pa_cons (pe_callF C_after (hr.mono (by decide)) (pa_cons (pe_callTy (T := "list") call_list_of (by rfl) T.m_list (by decide +kernel) (pa_cons (pv 2) pa_nil)) (pa_cons (pe_op op_mul (pv 1) (pe_op op_sub (pv 1) pe_int)) pa_nil))) (pa_cons (pv 3) pa_nil)))))))))))), ?_⟩
  refine ⟨_, rfl, a, ns, 0, rfl, hS, by omega, fun z => ⟨_, _, rfl, rfl, (by show (0 : Int) < 13; decide), _, _, rfl, rfl, ?_⟩⟩
  obtain ⟨k, ek, k1, k2⟩ := nat_of (z := z) (m := 13) (by decide)
  have hk : k ≤ 13 := by omega
  obtain ⟨t1, t2, t3, t4, t5, t6⟩ := tri_nums ⟨k, by omega⟩ k1
  replace t1 : 1 ≤ k * (k + 1) / 2 := t1
  replace t2 : k * (k + 1) / 2 ≤ 91 := t2
  replace t3 : 2 * (k * (k + 1) / 2) = k * (k + 1) := t3
  replace t4 : k * k - k ≤ 200 := t4
  replace t5 : (k : Int) * ((k : Int) - 1) = ((k * k - k : Nat) : Int) := t5
  replace t6 : (k : Int) * ((k : Int) + 1) / 2 = ((k * (k + 1) / 2 : Nat) : Int) := t6
  have ek2 : (1 + z % 13) * ((1 + z % 13) + 1) / 2 = ((k * (k + 1) / 2 : Nat) : Int) := by rw [ek]; exact t6
  have ek3 : (1 + z % 13) * ((1 + z % 13) - 1) = ((k * k - k : Nat) : Int) := by rw [ek]; exact t5
  generalize hn : k * (k + 1) / 2 = n at *
  have hz1 := Int.emod_nonneg z (show (13 : Int) ≠ 0 by decide)
  have hz2 := Int.emod_lt_of_pos z (show (0 : Int) < 13 by decide)
  refine ⟨_, rfl, _, rfl, _, rfl, _, _, rfl, rfl, _, _, rfl, rfl, .inl ⟨by omega, by omega⟩, _, _, rfl, rfl, ⟨by decide, by decide⟩, a, ns, 1, n, congrArg (fun z => [V.ref a, V.int 1, V.int z]) ek2, hS, by omega, t1, by omega, fun ps hps H1 p sm1 ep => ?_⟩
  have hl := hps.len
  obtain ⟨w, w1, w2, w3, w4, w5⟩ := stairs_way hps k1 hk t3 (by omega)
  have hfin := stairs_at hps k1 hk t3
  have hway : Way ps w := ⟨w2, w3⟩
  have ekn : (1 + z % 13).toNat = k := by omega
  have hsl := stairsL_len k
  refine ⟨_, rfl, _, rfl, by omega, by omega, fun D nD => lc_range (lo := 0) (n := (1 + z % 13).toNat) (fun i H' => Same H1 H' ∧ IL H' D ((stairsL k).take i)) ⟨same_new nD _, upd_same⟩ ?_ ?_⟩
  · intro i H' hi h
    obtain ⟨sm, eD⟩ := h
    have hi : i < k := by omega
    have gi := stairsL_get hi
    have ev : V.int (1 + z % 13 - (0 + (i : Int))) = V.int ((k : Int) - (i : Int)) := congrArg V.int (by omega)
    refine ⟨rfl, _, rfl, _, rfl, _, _, rfl, rfl, _, eD, by rw [nlen, List.length_take]; exact smallL (by omega), same_mut sm nD _, ?_⟩
    show upd _ _ _ _ = _
    rw [upd_same, take_snoc gi, List.map_append]
    exact congrArg (fun v => some (HO.lst (((stairsL k).take i).map V.int ++ [v]))) ev
  · intro H2 h
    obtain ⟨sm2, eD⟩ := h
    rw [ekn, List.take_of_length_le (by omega)] at eD
    have ep2 := sm2 _ _ ep
    -- found = way_of(list(piles))
    refine ⟨_, rfl, p, _, rfl, .inl (sq ep2), fun h nh => ?_⟩
    have sh := same_new nh (.lst (ps.map V.int))
    refine ⟨h, ps, n, w, rfl, upd_same, hps, by omega, hway, fun H3 sm3 => ?_⟩
    have ep3 := sm3 _ _ (sh _ _ ep2)
    have eD3 := sm3 _ _ (sh _ _ eD)
    clear sm3 sh nh
    refine ⟨_, rfl, _, rfl, true, rfl, ?_⟩
    refine ⟨_, rfl, _, _, rfl, rfl, true, congrArg V.bl (decide_eq_true (by omega)), ?_⟩
    refine ⟨_, rfl, _, rfl, _, _, rfl, rfl, _, _, rfl, rfl, .inl ⟨by omega, by omega⟩, _, _, rfl, rfl, true, congrArg V.bl (decide_eq_true (by rw [ek3]; omega)), ?_⟩
    -- ring_of(list(piles)), [stairs]
    refine ⟨_, rfl, p, _, rfl, .inl (sq ep3), fun h nh => ?_⟩
    have sh := same_new nh (.lst (ps.map V.int))
    refine ⟨h, ps, n, w, 1, rfl, upd_same, hps, by omega, hway, w5, by decide, fun H4 g gs sm4 ng ngs hG => ?_⟩
    have hr1 : ringL 1 (turnN w ps) = [stairsL k] := by
      rw [w4]
      rfl
    rw [hr1] at hG
    have ep4 := sm4 _ _ (sh _ _ ep3)
    have eD4 := sm4 _ _ (sh _ _ eD3)
    clear sm4 sh nh ng ngs
    refine ⟨_, rfl, (by show 1 ≤ sizeLine; decide), fun L nL => ?_⟩
    have sL := same_new nL (.lst [V.ref D])
    have eL : (upd H4 L (.lst [V.ref D])) L = some (.lst [V.ref D]) := upd_same
    refine ⟨g, L, gs, [D], _, [stairsL k], rfl, ⟨sL _ _ hG.1, hG.2.same sL⟩, ⟨eL, sL _ _ eD4, trivial⟩, fun m hm => by rw [List.mem_singleton.mp hm]; omega, fun H5 sm5 => ⟨_, rfl, ?_⟩⟩
    refine ite2 (fun c => absurd c (by rw [decide_eq_true rfl]; decide)) (fun _ => ?_)
    have ep5 := sm5 _ _ (sL _ _ ep4)
    have eD5 := sm5 _ _ (sL _ _ eD4)
    clear sm5 sL eL nL hG
    -- after(list(piles), stair * (stair - 1))
    refine ⟨_, rfl, p, _, rfl, .inl (sq ep5), fun h nh => ?_⟩
    have sh := same_new nh (.lst (ps.map V.int))
    refine ⟨_, rfl, _, rfl, _, _, rfl, rfl, _, _, rfl, rfl, .inl ⟨by omega, by omega⟩, h, ps, n, k * k - k, congrArg (fun z => [V.ref h, V.int z]) ek3, upd_same, hps, t1, by omega, by omega, fun H7 f sm7 nf ef => ?_⟩
    rw [hfin] at ef
    refine ⟨_, rfl, f, D, _, _, rfl, ef, sm7 _ _ (sh _ _ eD5), by omega, ?_⟩
    rw [decide_eq_true rfl]
    exact q _

end

/-! ### the head: facts by names, the run -/
def dd_is_setting : He.DefD := ⟨("is_setting", none), "is_setting", "is_setting", defArgs s_is_setting, defBody s_is_setting, defScope s_is_setting, [], []⟩
def dd_must_be : He.DefD := ⟨("must_be", none), "must_be", "must_be", defArgs s_must_be, defBody s_must_be, defScope s_must_be, [], []⟩
def dd_turned_by : He.DefD := ⟨("turned_by", none), "turned_by", "turned_by", defArgs s_turned_by, defBody s_turned_by, defScope s_turned_by, [], []⟩
def dd_after : He.DefD := ⟨("after", none), "after", "after", defArgs s_after, defBody s_after, defScope s_after, [], []⟩
def dd_stair_of : He.DefD := ⟨("stair_of", none), "stair_of", "stair_of", defArgs s_stair_of, defBody s_stair_of, defScope s_stair_of, [], []⟩
def dd_marks_by : He.DefD := ⟨("marks_by", none), "marks_by", "marks_by", defArgs s_marks_by, defBody s_marks_by, defScope s_marks_by, [], []⟩
def dd_way_of : He.DefD := ⟨("way_of", none), "way_of", "way_of", defArgs s_way_of, defBody s_way_of, defScope s_way_of, [], []⟩
def dd_ring_by : He.DefD := ⟨("ring_by", none), "ring_by", "ring_by", defArgs s_ring_by, defBody s_ring_by, defScope s_ring_by, [], []⟩
def dd_ring_of : He.DefD := ⟨("ring_of", none), "ring_of", "ring_of", defArgs s_ring_of, defBody s_ring_of, defScope s_ring_of, [], []⟩
def dd_law_cell : He.DefD := ⟨("_law_cell", none), "_law_cell", "_law_cell", defArgs s_law_cell, defBody s_law_cell, defScope s_law_cell, [], []⟩
def dd_law_whole : He.DefD := ⟨("_law_whole", none), "_law_whole", "_law_whole", defArgs s_law_whole, defBody s_law_whole, defScope s_law_whole, [], []⟩
def dd_law_ints : He.DefD := ⟨("_law_ints", none), "_law_ints", "_law_ints", defArgs s_law_ints, defBody s_law_ints, defScope s_law_ints, [], []⟩
def dd_law_lists_like : He.DefD := ⟨("_law_lists_like", none), "_law_lists_like", "_law_lists_like", defArgs s_law_lists_like, defBody s_law_lists_like, defScope s_law_lists_like, [], []⟩
def dd_law_next : He.DefD := ⟨("_law_next", none), "_law_next", "_law_next", defArgs s_law_next, defBody s_law_next, defScope s_law_next, [], []⟩
def dd_law_fallen : He.DefD := ⟨("_law_fallen", none), "_law_fallen", "_law_fallen", defArgs s_law_fallen, defBody s_law_fallen, defScope s_law_fallen, [], []⟩
def dd_law_turned : He.DefD := ⟨("_law_turned", none), "_law_turned", "_law_turned", defArgs s_law_turned, defBody s_law_turned, defScope s_law_turned, [], []⟩
def dd_law_stair : He.DefD := ⟨("_law_stair", none), "_law_stair", "_law_stair", defArgs s_law_stair, defBody s_law_stair, defScope s_law_stair, [], []⟩
def dd_law_by_marks : He.DefD := ⟨("_law_by_marks", none), "_law_by_marks", "_law_by_marks", defArgs s_law_by_marks, defBody s_law_by_marks, defScope s_law_by_marks, [], []⟩
def dd_law_drawn_marks : He.DefD := ⟨("_law_drawn_marks", none), "_law_drawn_marks", "_law_drawn_marks", defArgs s_law_drawn_marks, defBody s_law_drawn_marks, defScope s_law_drawn_marks, [], []⟩
def dd_law_elder : He.DefD := ⟨("_law_elder", none), "_law_elder", "_law_elder", defArgs s_law_elder, defBody s_law_elder, defScope s_law_elder, [], []⟩
def dd_law_drawn_piles : He.DefD := ⟨("_law_drawn_piles", none), "_law_drawn_piles", "_law_drawn_piles", defArgs s_law_drawn_piles, defBody s_law_drawn_piles, defScope s_law_drawn_piles, [], []⟩
def dd_law_setting : He.DefD := ⟨("_law_setting", none), "_law_setting", "_law_setting", defArgs s_law_setting, defBody s_law_setting, defScope s_law_setting, [], []⟩
def dd_law : He.DefD := ⟨("law", none), "law", "law", defArgs s_law, defBody s_law, defScope s_law, [], []⟩
def fn : List He.DefD := [dd_is_setting, dd_must_be, dd_turned_by, dd_after, dd_stair_of, dd_marks_by, dd_way_of, dd_ring_by, dd_ring_of, dd_law_cell, dd_law_whole, dd_law_ints, dd_law_lists_like, dd_law_next, dd_law_fallen, dd_law_turned, dd_law_stair, dd_law_by_marks, dd_law_drawn_marks, dd_law_elder, dd_law_drawn_piles, dd_law_setting, dd_law]
def fa : List He.Fa := [.glo "is_setting", .glo "must_be", .glo "turned_by", .glo "after", .glo "stair_of", .glo "marks_by", .glo "way_of", .glo "ring_by", .glo "ring_of", .glo "_law_cell", .glo "_law_whole", .glo "_law_ints", .glo "_law_lists_like", .glo "_law_next", .glo "_law_fallen", .glo "_law_turned", .glo "_law_stair", .glo "_law_by_marks", .glo "_law_drawn_marks", .glo "_law_elder", .glo "_law_drawn_piles", .glo "_law_setting", .glo "law", .int "MOST" 100, .int "MOST_TURNS" 100000000000000000000000000000, .free "bool", .free "int", .free "isinstance", .free "len", .free "list", .free "min", .free "range", .free "reversed", .free "sorted", .free "sum", .free "tuple", .free "zip"]
abbrev R : PySem.W.OpenRow := PySem.W.OpenLaw.row PySem.Challenge.rw_pilewheel_k10_whole_stairs
abbrev hk : PySem.W.Hook := He.hookD 4 fa fn
def ob (s : PySem.W.SharedT) : He.AlD := He.obsDG 4 fa fn (HandSHeadRun.getT s)
theorem ob_eq (s : PySem.W.SharedT) : ob s = hk.obs s.abs := He.obsDG_eq (HandSHeadRun.getT_eq s)
def loose : List PySem.Str := [("PileError" : PySem.Str), ("NoPiles" : PySem.Str), ("NoNumber" : PySem.Str), ("is_setting" : PySem.Str), ("must_be" : PySem.Str), ("turned_by" : PySem.Str), ("after" : PySem.Str), ("stair_of" : PySem.Str), ("marks_by" : PySem.Str), ("way_of" : PySem.Str), ("ring_by" : PySem.Str), ("ring_of" : PySem.Str), ("_law_cell" : PySem.Str), ("_law_whole" : PySem.Str), ("_law_ints" : PySem.Str), ("_law_lists_like" : PySem.Str), ("_law_next" : PySem.Str), ("_law_fallen" : PySem.Str), ("_law_turned" : PySem.Str), ("_law_stair" : PySem.Str), ("_law_by_marks" : PySem.Str), ("_law_drawn_marks" : PySem.Str), ("_law_elder" : PySem.Str), ("_law_drawn_piles" : PySem.Str), ("_law_setting" : PySem.Str), ("MOST" : PySem.Str), ("MOST_TURNS" : PySem.Str)]
theorem run (w : World) : HandSHeadRun.RunEq R (PySem.W.view R.prog [31]) hk ob 4000 loose w := by
  intro os
  kernel_rfl
theorem facts {P : Program} {w : World} {K : PySem.W.Frag} {h : Heap} {mg : Str → Option Value} {f : Addr} (X : K.In h) (G : h.Ns mainGlobals mg) (hfa : mg ("law" : Str) = some (.ref f)) (c : He.SaysD fa fn K) :
    ∃ fd : FuncData, (∀ (s : Shared) (v : Value), BindsTo s fd ⟨[v], []⟩ [("script", v)]) ∧ ∀ base : Heap, K.In base → base.Ns mainGlobals mg → FnOk P w K mg base CX0 4 f fd ["script"] (spLaw K) := by
  have T : Txt K mg := {
      d_is_setting := by
        obtain ⟨fd, F⟩ := c.def_ 0 (d := dd_is_setting) rfl
        exact ⟨fd, F, He.glo_ok X G (c.fact 0 (f := .glo "is_setting") rfl)⟩,
      d_must_be := by
        obtain ⟨fd, F⟩ := c.def_ 1 (d := dd_must_be) rfl
        exact ⟨fd, F, He.glo_ok X G (c.fact 1 (f := .glo "must_be") rfl)⟩,
      d_turned_by := by
        obtain ⟨fd, F⟩ := c.def_ 2 (d := dd_turned_by) rfl
        exact ⟨fd, F, He.glo_ok X G (c.fact 2 (f := .glo "turned_by") rfl)⟩,
      d_after := by
        obtain ⟨fd, F⟩ := c.def_ 3 (d := dd_after) rfl
        exact ⟨fd, F, He.glo_ok X G (c.fact 3 (f := .glo "after") rfl)⟩,
      d_stair_of := by
        obtain ⟨fd, F⟩ := c.def_ 4 (d := dd_stair_of) rfl
        exact ⟨fd, F, He.glo_ok X G (c.fact 4 (f := .glo "stair_of") rfl)⟩,
      d_marks_by := by
        obtain ⟨fd, F⟩ := c.def_ 5 (d := dd_marks_by) rfl
        exact ⟨fd, F, He.glo_ok X G (c.fact 5 (f := .glo "marks_by") rfl)⟩,
      d_way_of := by
        obtain ⟨fd, F⟩ := c.def_ 6 (d := dd_way_of) rfl
        exact ⟨fd, F, He.glo_ok X G (c.fact 6 (f := .glo "way_of") rfl)⟩,
      d_ring_by := by
        obtain ⟨fd, F⟩ := c.def_ 7 (d := dd_ring_by) rfl
        exact ⟨fd, F, He.glo_ok X G (c.fact 7 (f := .glo "ring_by") rfl)⟩,
      d_ring_of := by
        obtain ⟨fd, F⟩ := c.def_ 8 (d := dd_ring_of) rfl
        exact ⟨fd, F, He.glo_ok X G (c.fact 8 (f := .glo "ring_of") rfl)⟩,
      d_law_cell := by
        obtain ⟨fd, F⟩ := c.def_ 9 (d := dd_law_cell) rfl
        exact ⟨fd, F, He.glo_ok X G (c.fact 9 (f := .glo "_law_cell") rfl)⟩,
      d_law_whole := by
        obtain ⟨fd, F⟩ := c.def_ 10 (d := dd_law_whole) rfl
        exact ⟨fd, F, He.glo_ok X G (c.fact 10 (f := .glo "_law_whole") rfl)⟩,
      d_law_ints := by
        obtain ⟨fd, F⟩ := c.def_ 11 (d := dd_law_ints) rfl
        exact ⟨fd, F, He.glo_ok X G (c.fact 11 (f := .glo "_law_ints") rfl)⟩,
      d_law_lists_like := by
        obtain ⟨fd, F⟩ := c.def_ 12 (d := dd_law_lists_like) rfl
        exact ⟨fd, F, He.glo_ok X G (c.fact 12 (f := .glo "_law_lists_like") rfl)⟩,
      d_law_next := by
        obtain ⟨fd, F⟩ := c.def_ 13 (d := dd_law_next) rfl
        exact ⟨fd, F, He.glo_ok X G (c.fact 13 (f := .glo "_law_next") rfl)⟩,
      d_law_fallen := by
        obtain ⟨fd, F⟩ := c.def_ 14 (d := dd_law_fallen) rfl
        exact ⟨fd, F, He.glo_ok X G (c.fact 14 (f := .glo "_law_fallen") rfl)⟩,
      d_law_turned := by
        obtain ⟨fd, F⟩ := c.def_ 15 (d := dd_law_turned) rfl
        exact ⟨fd, F, He.glo_ok X G (c.fact 15 (f := .glo "_law_turned") rfl)⟩,
      d_law_stair := by
        obtain ⟨fd, F⟩ := c.def_ 16 (d := dd_law_stair) rfl
        exact ⟨fd, F, He.glo_ok X G (c.fact 16 (f := .glo "_law_stair") rfl)⟩,
      d_law_by_marks := by
        obtain ⟨fd, F⟩ := c.def_ 17 (d := dd_law_by_marks) rfl
        exact ⟨fd, F, He.glo_ok X G (c.fact 17 (f := .glo "_law_by_marks") rfl)⟩,
      d_law_drawn_marks := by
        obtain ⟨fd, F⟩ := c.def_ 18 (d := dd_law_drawn_marks) rfl
        exact ⟨fd, F, He.glo_ok X G (c.fact 18 (f := .glo "_law_drawn_marks") rfl)⟩,
      d_law_elder := by
        obtain ⟨fd, F⟩ := c.def_ 19 (d := dd_law_elder) rfl
        exact ⟨fd, F, He.glo_ok X G (c.fact 19 (f := .glo "_law_elder") rfl)⟩,
      d_law_drawn_piles := by
        obtain ⟨fd, F⟩ := c.def_ 20 (d := dd_law_drawn_piles) rfl
        exact ⟨fd, F, He.glo_ok X G (c.fact 20 (f := .glo "_law_drawn_piles") rfl)⟩,
      d_law_setting := by
        obtain ⟨fd, F⟩ := c.def_ 21 (d := dd_law_setting) rfl
        exact ⟨fd, F, He.glo_ok X G (c.fact 21 (f := .glo "_law_setting") rfl)⟩,
      c_MOST := by
        obtain ⟨t, e⟩ := He.int_ok X G (c.fact 23 (f := .int "MOST" 100) rfl)
        exact ⟨_, e, t, rfl⟩,
      c_MOST_TURNS := by
        obtain ⟨t, e⟩ := He.int_ok X G (c.fact 24 (f := .int "MOST_TURNS" 100000000000000000000000000000) rfl)
        exact ⟨_, e, t, rfl⟩,
      m_bool := He.free_ok X G (c.fact 25 (f := .free "bool") rfl),
      m_int := He.free_ok X G (c.fact 26 (f := .free "int") rfl),
      m_isinstance := He.free_ok X G (c.fact 27 (f := .free "isinstance") rfl),
      m_len := He.free_ok X G (c.fact 28 (f := .free "len") rfl),
      m_list := He.free_ok X G (c.fact 29 (f := .free "list") rfl),
      m_min := He.free_ok X G (c.fact 30 (f := .free "min") rfl),
      m_range := He.free_ok X G (c.fact 31 (f := .free "range") rfl),
      m_reversed := He.free_ok X G (c.fact 32 (f := .free "reversed") rfl),
      m_sorted := He.free_ok X G (c.fact 33 (f := .free "sorted") rfl),
      m_sum := He.free_ok X G (c.fact 34 (f := .free "sum") rfl),
      m_tuple := He.free_ok X G (c.fact 35 (f := .free "tuple") rfl),
      m_zip := He.free_ok X G (c.fact 36 (f := .free "zip") rfl) }
  obtain ⟨fd, F⟩ := c.def_ 22 (d := dd_law) rfl
  have e := hfa.symm.trans (He.glo_ok X G (c.fact 22 (f := .glo "law") rfl))
  cases e
  have b := FunD.bindsA (ps := ["script"]) F fun _ _ _ _ _ _ us hl => match us, hl with | [_], _ => rfl
  exact ⟨fd, fun s v => b s [v] rfl, fun base _ _ => ok_law_at T F⟩

end PW
open PySem PySem.W PySem.Calls PyProof.Rows
set_option maxRecDepth 100000 in
set_option maxHeartbeats 0 in
theorem PySem.Challenge.cw_pilewheel_k10_whole_stairs_holds : PySem.Challenge.rw_pilewheel_k10_whole_stairs.Holds := by
  w_on; o_law
  refine HandSHeadRun.head_any (r := OpenLaw.row PySem.Challenge.rw_pilewheel_k10_whole_stairs) (q := view (OpenLaw.row PySem.Challenge.rw_pilewheel_k10_whole_stairs).prog [31]) (H := PW.hk) (ob := PW.ob) (M := 4000) (loose := PW.loose) (d := HandSHeadRun.topDef (OpenLaw.row PySem.Challenge.rw_pilewheel_k10_whole_stairs).prog 31) (kwd := []) PW.ob_eq
    (by kernel_rfl) (fun s => by kernel_rfl) PW.run (by kernel_rfl) (by kernel_rfl) (by kernel_rfl) (by rfl) (by first | assumption | decide +kernel) (by decide +kernel) ⟨rfl, rfl, rfl, rfl, rfl, by decide +kernel⟩ ?hw ?hc
  case hw => w_witness2
  case hc =>
    refine L2.walk_ofE (l := PySem.Challenge.rw_pilewheel_k10_whole_stairs) (n := 63) (k := 4) (x := "script") (CX := L2.CX0) rfl (by decide) (by kernel_rfl) ⟨rfl, by decide, by decide⟩ ?F (fun _ _ _ _ z => z)
    intro w mg fa h Y G hmg0
    obtain ⟨K, KX, c⟩ := Y
    have hmg : mg ("law" : PySem.Str) = some (.ref fa) := by
      have e : (HandSHeadRun.topDef (OpenLaw.row PySem.Challenge.rw_pilewheel_k10_whole_stairs).prog 31).name = ("law" : PySem.Str) := by kernel_rfl
      rw [← e]
      exact hmg0
    obtain ⟨fd, hb, hF⟩ := PW.facts (P := (PySem.Challenge.rw_pilewheel_k10_whole_stairs).prog) (w := w) KX G hmg c
    exact ⟨K, fd, PW.spLaw K, KX, hb, fun H a ns hl _ hS => ⟨a, ns, rfl, hS, hl, fun _ => rfl⟩, hF⟩
