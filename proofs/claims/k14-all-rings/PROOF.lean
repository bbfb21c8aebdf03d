import PyProof.Rows.All
import Wide.All
import OpenK.AllK
import Wide.FinOn
import KE.KStateDown
import Lean
import HandS.ForMost
import HandS.Exc
import HandS.More
import HandS.WordsExc
import HandS.Defaults
import HandS.Wide
import HandS.SortInts
import HandS.Rev
import HandS.IsInst
import HandS.Deep
import HandS.Zip
import KE.SortData
import KE.DataMinMax
import KE.DataCmp
import HandS.Head0
import HandS.Head1
import HandS.Head2
import HandS.HeadEnd
import HandS.HeadHook1
import HandS.HeadHook2
import PySem.Challenge.RW_pilewheel_k14_all_rings
set_option Elab.async false
set_option linter.all false
set_option maxRecDepth 100000
set_option maxHeartbeats 4000000
namespace PW
open PySem PySem.Spec PyProof.Rows L2

/-! ### a def that may be called -/
structure Cal (P : Program) (w : World) (K : PySem.W.Frag) (mg : Str → Option Value) (base : Heap) (CX : CXT) (k : Nat) (x : Str) (ps : List Str) (sp : Sp) : Prop where
  ex : ∃ (f : Addr) (fd : FuncData), FnOk P w K mg base CX k f fd ps sp ∧ mg x = some (.ref f) ∧ PySem.W.keepIn K (.ref f) = true ∧ Binds K fd ps []
def DefAt (K : PySem.W.Frag) (mg : Str → Option Value) (x : Str) (st : Stmt) : Prop :=
  ∃ fd, FunD K x x (defArgs st) (defBody st) (defScope st) [] [] (He.ga K x) fd ∧ mg x = some (.ref (He.ga K x))
theorem pe_callF {X : Cx} {k : Nat} {x : Str} {ps : List Str} {sp : Sp} {e : Expr} {es : List Expr} {t : TA} {p pos : Pos} (C : Cal X.prog X.w X.K X.mg X.base CX0 k x ps sp) (hr : Room k X.A) (ha : PA X (e :: es) t) (hg : Gl X x := by rfl)
    (hdb : (x == ("__debug__" : Str)) = false := by decide) (he : starEach (e :: es) X.env = (false, eval e X.env) :: starEach es X.env := by rfl) (hpl : (backTo pos (starEach es X.env)).any (·.1) = false := by rfl) :
    PE X (.Call (.Name x p) (e :: es) [] pos) (tCall sp [] E0 t) := by
  obtain ⟨f, fd, F, hm, hk, hb⟩ := C.ex
  exact pe_call F hr hg hm hk hb .nil pass0 ha hdb he hpl
theorem pe_globX {X : Cx} {x : Str} {v : V} {pos : Pos} (h : ∃ u, X.mg x = some u ∧ RelV v u) (hg : Gl X x := by rfl) (hd : (x == ("__debug__" : Str)) = false := by decide) : PE X (.Name x pos) (tC v) := by
  obtain ⟨u, hm, r⟩ := h
  exact pe_glob hg hm r hd
theorem cal_mk {P : Program} {w : World} {K : PySem.W.Frag} {mg : Str → Option Value} {base : Heap} {x : Str} {st : Stmt} {N ps : List Str} {k : Nat} {sp : Sp} (D : DefAt K mg x st) (S : FnScope N ps (defScope st)) (len : ∀ vs H Q E, sp vs H Q E → vs.length = ps.length)
    (hb : ∀ (kV doc pm : Value) (an : Option Addr) (cdv ct : Value) (us : List Value), us.length = ps.length → bindArgs (PySem.W.fnOf x x (defArgs st) (defBody st) (defScope st) .none kV doc pm an cdv ct) ⟨us, []⟩ = pure (ps.zip us))
    (hbody : ∀ (f : Addr) (cdv : Value) (A : Around) (outer : List Env) (s : Shared) (H : Hp) (vs : List V) (Q : VK) (E : XK), Room k (A.deeper (envOfC x (defScope st) s.heap.objs.size f cdv)) → sp vs H Q E →
      ∃ t, PSs (cxOf CX0 P w K mg base N x (defScope st) f cdv A outer s H E).nox (defBody st) t ∧ t { nx := fun _ H' => Q .non H', rt := Q } (start N vs) H) : Cal P w K mg base CX0 (k + 1) x ps sp := by
  obtain ⟨fd, F, g⟩ := D
  refine ⟨⟨_, fd, F.ok S len (fun cdv A outer s H vs Q E hr h => ?_), g, F.kp, F.bindsN hb⟩⟩
  obtain ⟨t, h1, h2⟩ := hbody _ cdv A outer s H vs Q E hr h
  exact ⟨t, h1.nox, h2⟩
/-! ### heaps -/
theorem same_new {H : Hp} {p : Addr} (h : H p = none) (o : HO) : Same H (upd H p o) := fun b u q => by rw [upd_ne (ne_of_none q h)]; exact q
theorem same_mut {H H' : Hp} {p : Addr} (e : Same H H') (h : H p = none) (o : HO) : Same H (upd H' p o) := fun b u q => by
  rw [upd_ne (ne_of_none q h)]
  exact e b u q
theorem small {n : Nat} (h : n ≤ 100000) : n ≤ sizeLine := Nat.le_trans h (by decide)
theorem smallL {n : Nat} (h : n ≤ 100000) : n < sizeLine := Nat.lt_of_le_of_lt h (by decide)
/-- a list of ints that may be changed; the script -/
abbrev IL (H : Hp) (a : Addr) (ns : List Int) : Prop := H a = some (.lst (ns.map V.int))
abbrev SL (K : PySem.W.Frag) (H : Hp) (a : Addr) (ns : List Int) : Prop := SqL K H a (ns.map V.int)
/-- a new list of ints -/
abbrev NL (Q : VK) (H : Hp) (ns : List Int) : Prop := ∀ (H' : Hp) (p : Addr), Same H H' → H p = none → IL H' p ns → Q (.ref p) H'
theorem sq {K : PySem.W.Frag} {H : Hp} {a : Addr} {xs : List V} (h : H a = some (.lst xs)) : SqL K H a xs := .inl (.inl h)
theorem nlen {ns : List Int} : (ns.map V.int).length = ns.length := List.length_map _
theorem take_snoc {α : Type} {l : List α} {i : Nat} {x : α} (h : l[i]? = some x) : l.take (i + 1) = l.take i ++ [x] := by
  rw [List.take_add_one, h] <;> rfl
theorem cut_to (xs : List V) {j : Nat} (h : j ≤ xs.length) : cutV xs none (some (j : Int)) = xs.take j := by
  unfold cutV
  rw [HT.sIx_none, HT.sIx_nat, Nat.min_eq_left h] <;> rfl
theorem cut_from (xs : List V) {j : Nat} (h : j ≤ xs.length) : cutV xs (some (j : Int)) none = xs.drop j := by
  unfold cutV
  rw [HT.sIx_none, HT.sIx_nat, Nat.min_eq_left h]
  exact List.take_of_length_le (by rw [List.length_drop]; exact Nat.le_refl _)
theorem get_int {ns : List Int} {i : Nat} {x : V} (h : (ns.map V.int)[i]? = some x) : ∃ z, ns[i]? = some z ∧ x = .int z := by
  rw [List.getElem?_map] at h
  cases e : ns[i]? with
  | none => rw [e] at h; cases h
  | some z => rw [e] at h; exact ⟨z, rfl, (Option.some.inj h).symm⟩
theorem int_get {ns : List Int} {i : Nat} {z : Int} (h : ns[i]? = some z) : (ns.map V.int)[i]? = some (.int z) := by
  rw [List.getElem?_map, h] <;> rfl
/-- list(reversed(e)), e a list -/
def tListRev (K : PySem.W.Frag) (te : TE) : TE := fun σ H Q => te σ H fun v H1 => ∃ (a : Addr) (xs : List V), v = .ref a ∧ SqL K H1 a xs ∧ ∀ q, H1 q = none → Q (.ref q) (upd H1 q (.lst xs.reverse))
/-! ### rules within a comprehension: the written part by name -/
theorem ix_listK {X : Cx} (K : PySem.W.Frag) (h : X.K = K := by rfl) : IxR X (rIxL K) := by
  subst h
  exact ix_list
theorem call_len_seqK {X : Cx} (K : PySem.W.Frag) (h : X.K = K := by rfl) : CallR X (.builtin "len") (fun xs H Q => ∃ p ys, xs = [.ref p] ∧ (SqL K H p ys ∨ SqT K H p ys) ∧ Q (.int ys.length) H) := by
  subst h
  exact call_len_seq
theorem op_in_seqK {X : Cx} (K : PySem.W.Frag) (h : X.K = K := by rfl) : OpR X (compareOp .In) (rIn K false) := by
  subst h
  exact op_in_seq
theorem op_notIn_seqK {X : Cx} (K : PySem.W.Frag) (h : X.K = K := by rfl) : OpR X (compareOp .NotIn) (rIn K true) := by
  subst h
  exact op_notIn_seq
theorem sl_listK {X : Cx} (K : PySem.W.Frag) (h : X.K = K := by rfl) : SlR X (rSlL K) := by
  subst h
  exact sl_list
theorem hu65 {A : Around} {k : Nat} (r : Room k A) : A.units + 65 < cLine := by
  have := r.un
  omega
theorem call_list_ofK {X : Cx} (K : PySem.W.Frag) (h : X.K = K := by rfl) : CallR X (.type "list") (fun xs H Q => ∃ p ys, xs = [.ref p] ∧ (SqL K H p ys ∨ SqT K H p ys) ∧ ∀ l, H l = none → Q (.ref l) (upd H l (.lst ys))) := by
  subst h
  exact call_list_of

/-! ### list(reversed(e)) -/
section
variable {prog : Program} {w : World} {A : Around} {E : Value → Shared → Prop} {s : Shared} {R : Result → Shared → Prop}
theorem ext_rev (hh : A.handled = none) {it l : Addr} {items : Array Value} (hit : s.heap.IsRevIter it l ((items.size : Int) - 1)) (hl : s.heap.IsList l items) (hne : l ≠ it) (hn : items.size ≤ sizeLine) (S : Addr) (res : Value) (c0 : Nat)
    (hS : s.heap.get? S = some { cls := .type "list", data := .seq #[] c0 }) (hSi : S ≠ it) (hSl : S ≠ l)
    (hR : ∀ (h' : Heap) (tk : Nat) (acc' : Array Value) (c' : Nat), (∀ b o, b ≠ S → b ≠ it → s.heap.get? b = some o → h'.get? b = some o) → h'.get? S = some { cls := .type "list", dict := none, data := .seq acc' c', slots := #[] } →
      ItemsOf (fun i v => items[items.size - 1 - i]? = some v) acc' items.size → R (.ok (.ret res)) { s with heap := h', toks := tk }) :
    wpAny (model prog w) A.in1 (Builtin.List.listExtendWith (.ref S) (.ref it) res)
      (fun fin s' => match fin with | .done f => R (.ok f) s' | .again c' => c'.quiet = true ∧ codeAny (model prog w) A c' R s') (fun e s' => R (.error e) s') s := by
  have W := (Walks.listRev (prog := prog) (w := w) (A := A.in1) hh it l hne items).toS
  have hSf : S ∉ [it, l] := by simp only [List.mem_cons, List.not_mem_nil, or_false, not_or]; exact ⟨hSi, hSl⟩
  have hT : s.TypeIs (.ref it) "list_reverseiterator" := Heap.IsRevIter.typeIs hit
  have h1 : Builtin.List.listSameRef (.ref S) (.ref it) = false := by simp [Builtin.List.listSameRef, hSi]
  unfold Builtin.List.listExtendWith
  refine wpAny_bind (wpAny_typeOf hT ?_)
  rw [if_neg (by rw [h1]; decide)]
  refine wpAny_bind (wpAny_pyIter_revIter (s := s) hit ?_)
  refine wpAny_bind (wpAny_holding ?_)
  unfold Builtin.List.listLengthHint
  refine wpAny_bind (wpAny_specialOf hT RT.nolen_lri ?_)
  show wpAny _ A.in1 (specialOf (Value.ref it) (Str.ofString "__length_hint__") >>= _) _ _ _
  refine wpAny_bind (wpAny_specialOf hT RT.hint_lri ?_)
  generalize hid : ("list_reverseiterator.__length_hint__" : String) = id0
  wp_delta
  rw [show splitId id0 = some ("list_reverseiterator", "__length_hint__") from by subst hid; decide +kernel]
  subst hid
  refine wpAny_bind (wpAny_isInstance (b := true) hT (by rw [isSubtype_type]; kernel_rfl) ?_)
  refine wpAny_pure ?_
  rw [if_neg (by decide)]
  have e0 : ((items.size : Nat) : Int) - 1 - ((0 : Nat) : Int) = (items.size : Int) - 1 := by omega
  refine wpAny_pure ⟨plainId_quiet F.plain_extend_loop _, codeAny_extend_loopS W hn _ hSf _ items.size 0 _ _ _ rfl (Nat.zero_le _) ⟨Nat.zero_le _, by rw [e0]; exact hit, hl⟩ hS (ItemsOf.nil _) fun s' acc' c' hm hS' hacc => ?_⟩
  rw [Moved.eq_with hm]
  refine hR s'.heap s'.toks acc' c' (fun b o hb hb2 e => hm.heap b o (fun hmem => ?_) e) hS' hacc
  rcases List.mem_cons.mp hmem with e' | hmem
  · exact hb e'
  · exact hb2 (List.mem_singleton.mp hmem)
theorem init_rev (hh : A.handled = none) {it l : Addr} {items : Array Value} (hit : s.heap.IsRevIter it l ((items.size : Int) - 1)) (hl : s.heap.IsList l items) (hne : l ≠ it) (hn : items.size ≤ sizeLine) (S : Addr)
    (hS : s.heap.get? S = some { cls := .type "list", data := .seq #[] }) (hSi : S ≠ it) (hSl : S ≠ l)
    (hR : ∀ (h' : Heap) (tk : Nat) (acc' : Array Value) (c' : Nat), (∀ b o, b ≠ S → b ≠ it → s.heap.get? b = some o → h'.get? b = some o) → h'.get? S = some { cls := .type "list", dict := none, data := .seq acc' c', slots := #[] } →
      ItemsOf (fun i v => items[items.size - 1 - i]? = some v) acc' items.size → R (.ok (.ret .none)) { s with heap := h', toks := tk }) :
    wpAny (model prog w) A.in1 (Builtin.«list.__init__» ⟨[.ref S, .ref it], []⟩)
      (fun fin s' => match fin with | .done f => R (.ok f) s' | .again c' => c'.quiet = true ∧ codeAny (model prog w) A c' R s') (fun e s' => R (.error e) s') s := by
  show wpAny _ _ (do let old ← Builtin.List.listItems (.ref S); Builtin.List.listUpdate (.ref S) (fun _ => #[]); letGo old.toList.reverse; Builtin.List.listExtendWith (.ref S) (.ref it) .none) _ _ s
  refine wpAny_bind ?_
  unfold Builtin.List.listItems
  refine wpAny_bind (wpAny_seqItems hS rfl (wpAny_pure ?_))
  show wpAny _ _ (updateSeq S (fun _ => #[]) >>= fun _ => letGo (#[] : Array Value).toList.reverse >>= fun _ => Builtin.List.listExtendWith (.ref S) (.ref it) .none) _ _ s
  refine wpAny_bind (wpAny_updateSeq hS rfl ?_)
  have hS₂ := Heap.get?_update_self (Obj.mapSeq (fun _ => (#[] : Array Value))) hS rfl
  have oth : ∀ b o, b ≠ S → s.heap.get? b = some o → (s.heap.update S (Obj.mapSeq (fun _ => (#[] : Array Value)))).get? b = some o :=
    fun b o hb e => (Heap.get?_update_other _ _ (Ne.symm hb)).trans e
  refine wpAny_bind (wpAny_letGo ?_)
  refine ext_rev (s := { s with heap := s.heap.update S (Obj.mapSeq (fun _ => (#[] : Array Value))) }) hh (hit.at fun o e => oth it o (Ne.symm hSi) e) ?_ hne hn S .none _ hS₂ hSi hSl fun h' tk acc' c' hk hS' hacc => ?_
  · obtain ⟨o, e, q⟩ := hl
    exact ⟨o, oth l o (Ne.symm hSl) e, q⟩
  · exact hR h' tk acc' c' (fun b o hb hb2 e => hk b o hb hb2 (oth b o hb e)) hS' hacc
theorem call_list_rev {it l : Addr} {items : Array Value} {Q : Value → Shared → Prop} (hh : A.handled = none) (hit : s.heap.IsRevIter it l ((items.size : Int) - 1)) (hl : s.heap.IsList l items) (hne : l ≠ it) (hn : items.size ≤ sizeLine)
    (hQ : ∀ (h' : Heap) (tk : Nat) (acc' : Array Value) (c' : Nat), (∀ b o, b ≠ it → s.heap.get? b = some o → h'.get? b = some o) →
      h'.get? s.heap.objs.size = some { cls := .type "list", dict := none, data := .seq acc' c', slots := #[] } → ItemsOf (fun i v => items[items.size - 1 - i]? = some v) acc' items.size → Q (.ref s.heap.objs.size) { s with heap := h', toks := tk }) :
    wpAny (model prog w) A (call (.type "list") [.ref it]) Q E s := by
  obtain ⟨oi, hoi, _⟩ := id hit
  obtain ⟨ol, hol, _⟩ := id hl
  refine callType_codes (Q₁ := fun obj s₁ => obj = .ref s.heap.objs.size ∧ s₁ = { s with heap := s.heap.push { cls := .type "list", data := .seq #[] } }) F.called_list (F.typeCall_list_1 _) F.entry_list_init
    (code_list_new _ ⟨rfl, rfl⟩) fun obj s₁ h₁ => ?_
  obtain ⟨rfl, rfl⟩ := h₁
  have hS : (s.heap.push { cls := .type "list", data := .seq #[] }).get? s.heap.objs.size = some { cls := .type "list", data := .seq #[] } := Heap.get?_push_size _ rfl
  refine ⟨⟨_, hS, rfl⟩, F.args_list_init_2 _ _, init_rev (A := A.in1) (s := { s with heap := s.heap.push { cls := .type "list", data := .seq #[] } }) hh (hit.at fun o e => Heap.get?_push_of_some _ e) (hl.push _) hne hn _ hS (Nat.ne_of_gt (Heap.lt_size hoi)) (Nat.ne_of_gt (Heap.lt_size hol)) fun h' tk acc' c' hk hS' hacc => ?_⟩
  exact ⟨rfl, hQ h' tk acc' c' (fun b o hb e => hk b o (Nat.ne_of_lt (Heap.lt_size e)) hb (Heap.get?_push_of_some _ e)) hS' hacc⟩
end
theorem pe_listRev {X : Cx} {e : Expr} {te : TE} {p p2 pos pos2 : Pos} (hc : X.calm = true) (hg : Gl X "list") (hm : X.mg "list" = none) (hg2 : Gl X "reversed") (hm2 : X.mg "reversed" = none) (he : PE X e te)
    (hs : starEach [e] X.env = (false, eval e X.env) :: starEach [] X.env := by rfl)
    (hs2 : starEach [.Call (.Name "reversed" p2) [e] [] pos2] X.env = (false, eval (.Call (.Name "reversed" p2) [e] [] pos2) X.env) :: starEach [] X.env := by rfl) :
    PE X (.Call (.Name "list" p) [.Call (.Name "reversed" p2) [e] [] pos2] [] pos) (tListRev X.K te) := by
  refine ⟨fun pins s σ H Q I h => ?_⟩
  refine Call_ (ld_blt I hg hm PyProof.Rows.boot_list (PyProof.Rows.callWith_type1 (args_cons (Call_ (ld_blt I hg2 hm2 PyProof.Rows.boot_reversed (PyProof.Rows.callWith_type1 (args_cons (thn (he.run pins s σ H _ I h) fun u s1 ⟨v, H1, I1, r1, q1⟩ => args_nil ?_) hs) hs rfl))) hs2) hs2 rfl))
  obtain ⟨a, xs, ev, hq, q⟩ := q1
  subst ev
  obtain rfl : u = Value.ref a := r1
  obtain ⟨its, rv, p', hz⟩ := I1.list hq
  refine call_reversed_list p'.isList (args_nil ?_)
  have k0 : ∀ b o, s1.heap.get? b = some o → (s1.heap.push (revObj a ((its.toArray.size : Int) - 1))).get? b = some o := fun b o e => Heap.get?_push_of_some _ e
  have I2 : Inv X pins σ H1 { s1 with heap := s1.heap.push (revObj a ((its.toArray.size : Int) - 1)) } := I1.kept (t' := s1.toks) k0
  obtain ⟨f0, f1, f2, f3, f4, f5⟩ := I1.fpOk (H' := H1) (b := s1.heap.objs.size) (Nat.le_refl _) (I1.hok.fresh (Nat.le_refl _))
  have hl := p'.isList
  obtain ⟨ol, hol, _⟩ := id hl
  have hne : a ≠ s1.heap.objs.size := Nat.ne_of_lt (Heap.lt_size hol)
  have hn : its.toArray.size ≤ sizeLine := by rw [List.size_toArray, ← rv.length]; exact hz
  refine call_list_rev (s := { s1 with heap := s1.heap.push (revObj a ((its.toArray.size : Int) - 1)) }) (I1.ok.hd hc) ⟨_, Heap.get?_push_size _ rfl, rfl, rfl⟩ (hl.push _) hne hn fun h' tk acc c' hk hS hi => ?_
  have hit0 : H1 s1.heap.objs.size = none := I1.hok.fresh (Nat.le_refl _)
  have hS0 : H1 (s1.heap.push (revObj a ((its.toArray.size : Int) - 1))).objs.size = none := I2.hok.fresh (Nat.le_refl _)
  have hSit : s1.heap.objs.size ≠ (s1.heap.push (revObj a ((its.toArray.size : Int) - 1))).objs.size := by rw [Heap.size_push]; omega
  generalize hS2 : (s1.heap.push (revObj a ((its.toArray.size : Int) - 1))).objs.size = S at *
  have hn3 : ((s1.heap.push (revObj a ((its.toArray.size : Int) - 1))).push { cls := .type "list", data := .seq #[] }).get? S = some { cls := .type "list", data := .seq #[] } := by
    rw [← hS2]
    exact Heap.get?_push_size _ rfl
  have I3 : Inv X pins σ (upd H1 S (.lst [])) { s1 with heap := (s1.heap.push (revObj a ((its.toArray.size : Int) - 1))).push { cls := .type "list", data := .seq #[] } } :=
    I2.laid (t' := s1.toks) (fun b o e => Heap.get?_push_of_some _ e) (Nat.le_of_eq hS2) (show ObjOk X.prog X.w _ _ _ (.lst []) from ⟨Nat.zero_le _, [], 0, .nil, hn3⟩)
  have hn4 := Heap.get?_update_self (fun _ => ({ cls := .type "list", dict := none, data := .seq acc c', slots := #[] } : Obj)) hn3 rfl
  have I4 : Inv X pins σ (upd (upd H1 S (.lst [])) S (.lst xs.reverse)) { s1 with heap := ((s1.heap.push (revObj a ((its.toArray.size : Int) - 1))).push { cls := .type "list", data := .seq #[] }).update S (fun _ => ({ cls := .type "list", dict := none, data := .seq acc c', slots := #[] } : Obj)) } :=
    I3.write (t' := s1.toks) (x := S) (e := S) (by rw [upd_same]; trivial) (.inl rfl) (fun b u hb e => (Heap.get?_update_other _ _ (Ne.symm hb)).trans e) ⟨_, hn4⟩
      (show ObjOk X.prog X.w _ _ _ (.lst xs.reverse) from ⟨by rw [List.length_reverse]; exact hz, acc.toList, c', RT.vals_rev rv hi, by rw [Array.toArray_toList]; exact hn4⟩)
  rw [upd_upd] at I4
  have hnS : (upd H1 S (.lst xs.reverse)) s1.heap.objs.size = none := by rw [upd_ne hSit]; exact hit0
  obtain ⟨f0, f1, f2, f3, f4, f5⟩ := I1.fpOk (H' := upd H1 S (.lst xs.reverse)) (b := s1.heap.objs.size) (Nat.le_refl _) hnS
  have I5 : Inv X pins σ (upd H1 S (.lst xs.reverse)) { s1 with heap := h', toks := tk } := Inv.turned (s := { s1 with heap := ((s1.heap.push (revObj a ((its.toArray.size : Int) - 1))).push { cls := .type "list", data := .seq #[] }).update S (fun _ => ({ cls := .type "list", dict := none, data := .seq acc c', slots := #[] } : Obj)) }) (t' := tk) (it := s1.heap.objs.size) I4 (fun b o hb e => by
    by_cases hbS : b = S
    · subst hbS
      rw [hn4] at e
      rw [hS]
      exact e
    · have e2 := (Heap.get?_update_other _ _ (Ne.symm hbS)).symm.trans e
      rcases Heap.get?_push_cases e2 with ⟨z, _⟩ | z
      · exact absurd (z.trans hS2) hbS
      · exact hk b o hb z) f0 f1 f3 f4 f5
  exact ⟨.ref S, _, I5, rfl, q _ hS0⟩

/-! ### lists that fall -/
def insD (x : Int) : List Int → List Int
  | [] => [x]
  | y :: r => if y > x then y :: insD x r else x :: y :: r
def fall : List Int → List Int
  | [] => []
  | x :: r => insD x (fall r)
abbrev Falls (l : List Int) : Prop := l.Pairwise (· ≥ ·)
theorem insD_perm (x : Int) : ∀ l : List Int, (insD x l).Perm (x :: l)
  | [] => .refl _
  | y :: r => by
    unfold insD
    split
    · exact ((insD_perm x r).cons y).trans (.swap x y r)
    · exact .refl _
theorem insD_mem {x z : Int} {l : List Int} : z ∈ insD x l ↔ z = x ∨ z ∈ l := by
  rw [(insD_perm x l).mem_iff, List.mem_cons]
theorem insD_falls {x : Int} : ∀ {l : List Int}, Falls l → Falls (insD x l)
  | [], _ => List.pairwise_singleton _ _
  | y :: r, h => by
    obtain ⟨h1, h2⟩ := List.pairwise_cons.mp h
    unfold insD
    split
    · rename_i c
      refine List.pairwise_cons.mpr ⟨fun z hz => ?_, insD_falls h2⟩
      rcases insD_mem.mp hz with rfl | hz
      · exact Int.le_of_lt c
      · exact h1 z hz
    · rename_i c
      refine List.pairwise_cons.mpr ⟨fun z hz => ?_, h⟩
      rcases List.mem_cons.mp hz with rfl | hz
      · show z ≤ x
        omega
      · have := h1 z hz
        show z ≤ x
        omega
theorem fall_perm : ∀ l : List Int, (fall l).Perm l
  | [] => .refl _
  | x :: r => (insD_perm x _).trans ((fall_perm r).cons x)
theorem fall_falls : ∀ l : List Int, Falls (fall l)
  | [] => List.Pairwise.nil
  | _ :: r => insD_falls (fall_falls r)
theorem falls_unique : ∀ {l m : List Int}, l.Perm m → Falls l → Falls m → l = m
  | [], m, h, _, _ => (List.nil_perm.mp h).symm
  | x :: l, [], h, _, _ => absurd h.length_eq (by simp)
  | x :: l, y :: m, h, hl, hm => by
    obtain ⟨a1, a2⟩ := List.pairwise_cons.mp hl
    obtain ⟨b1, b2⟩ := List.pairwise_cons.mp hm
    have e : x = y := by
      have hx : x ∈ y :: m := h.mem_iff.mp (List.mem_cons_self ..)
      have hy : y ∈ x :: l := h.mem_iff.mpr (List.mem_cons_self ..)
      rcases List.mem_cons.mp hx with e | hx
      · exact e
      · rcases List.mem_cons.mp hy with e | hy
        · exact e.symm
        · have p := b1 x hx
          have q := a1 y hy
          omega
    subst e
    rw [falls_unique ((List.perm_cons x).mp h) a2 b2]
theorem fall_eq {l m : List Int} (h : m.Perm l) (hm : Falls m) : m = fall l := falls_unique (h.trans (fall_perm l).symm) hm (fall_falls l)
theorem fall_self {l : List Int} (h : Falls l) : fall l = l := (fall_eq (.refl _) h).symm
theorem fall_length (l : List Int) : (fall l).length = l.length := (fall_perm l).length_eq
theorem perm_sum : ∀ {l m : List Int}, l.Perm m → l.sum = m.sum := fun h => by
  induction h with
  | nil => rfl
  | cons x _ ih => rw [List.sum_cons, List.sum_cons, ih]
  | swap x y l => simp only [List.sum_cons]; omega
  | trans _ _ a b => exact a.trans b
theorem fall_sum (l : List Int) : (fall l).sum = l.sum := perm_sum (fall_perm l)
/-! ### settings -/
structure Good (ns : List Int) : Prop where
  pos : ∀ x ∈ ns, 1 ≤ x
  falls : Falls ns
  ne : ns ≠ []
theorem len_le_sum : ∀ {ns : List Int}, (∀ x ∈ ns, 1 ≤ x) → (ns.length : Int) ≤ ns.sum
  | [], _ => Int.le_refl 0
  | x :: r, h => by
    have h1 := h x (List.mem_cons_self ..)
    have ih := len_le_sum (ns := r) fun z hz => h z (List.mem_cons_of_mem _ hz)
    rw [List.sum_cons, List.length_cons]
    omega
theorem mem_le_sum : ∀ {ns : List Int}, (∀ x ∈ ns, 0 ≤ x) → ∀ x ∈ ns, x ≤ ns.sum
  | y :: r, h, x, hx => by
    have h1 := h y (List.mem_cons_self ..)
    have h2 : ∀ z ∈ r, 0 ≤ z := fun z hz => h z (List.mem_cons_of_mem _ hz)
    have h3 : 0 ≤ r.sum := by
      clear hx
      induction r with
      | nil => exact Int.le_refl 0
      | cons a t ih =>
        rw [List.sum_cons]
        have q1 := h2 a (List.mem_cons_self ..)
        have q2 := ih (fun z hz => h z (by rcases List.mem_cons.mp hz with e | e <;> simp [e])) fun z hz => h2 z (List.mem_cons_of_mem _ hz)
        omega
    rw [List.sum_cons]
    rcases List.mem_cons.mp hx with rfl | hx
    · omega
    · have q := mem_le_sum h2 x hx
      omega
/-- a setting of n coins -/
def IsSet (n : Int) (ns : List Int) : Prop := Good ns ∧ ns.sum = n
theorem IsSet.len {n : Int} {ns : List Int} (h : IsSet n ns) : (ns.length : Int) ≤ n := by
  have := len_le_sum h.1.pos
  rw [h.2] at this
  exact this
theorem IsSet.le {n : Int} {ns : List Int} (h : IsSet n ns) {x : Int} (hx : x ∈ ns) : x ≤ n := by
  have := mem_le_sum (fun z hz => by have := h.1.pos z hz; omega) x hx
  rw [h.2] at this
  exact this
theorem IsSet.ne {n : Int} {ns : List Int} (h : IsSet n ns) : 0 < ns.length := List.length_pos_iff.mpr h.1.ne
/-! ### a turn -/
def down1 (ns : List Int) : List Int := (ns.filter fun z => decide (z > 1)).map (· - 1)
def turn (ns : List Int) : List Int := insD ns.length (down1 ns)
theorem down1_cons (x : Int) (r : List Int) : down1 (x :: r) = if x > 1 then (x - 1) :: down1 r else down1 r := by
  unfold down1
  rw [List.filter_cons]
  by_cases c : x > 1
  · rw [if_pos c, if_pos (decide_eq_true c)] <;> rfl
  · rw [if_neg c, if_neg (by simp only [decide_eq_true_eq]; exact c)]
theorem mem_down1 {z : Int} {ns : List Int} : z ∈ down1 ns ↔ z + 1 ∈ ns ∧ 1 ≤ z := by
  unfold down1
  simp only [List.mem_map, List.mem_filter, decide_eq_true_eq]
  constructor
  · rintro ⟨y, ⟨h1, h2⟩, rfl⟩
    exact ⟨by rw [show y - 1 + 1 = y by omega]; exact h1, by omega⟩
  · rintro ⟨h1, h2⟩
    exact ⟨z + 1, ⟨h1, by omega⟩, by omega⟩
theorem down1_falls {ns : List Int} (h : Falls ns) : Falls (down1 ns) := by
  induction ns with
  | nil => exact List.Pairwise.nil
  | cons x r ih =>
    obtain ⟨h1, h2⟩ := List.pairwise_cons.mp h
    rw [down1_cons]
    split
    · refine List.pairwise_cons.mpr ⟨fun z hz => ?_, ih h2⟩
      have := h1 _ (mem_down1.mp hz).1
      show z ≤ x - 1
      omega
    · exact ih h2
theorem down1_sum {ns : List Int} (h : ∀ x ∈ ns, 1 ≤ x) : (down1 ns).sum + ns.length = ns.sum := by
  induction ns with
  | nil => rfl
  | cons x r ih =>
    have h1 := h x (List.mem_cons_self ..)
    have ih := ih fun z hz => h z (List.mem_cons_of_mem _ hz)
    rw [down1_cons]
    split
    · rw [List.sum_cons, List.sum_cons, List.length_cons]; omega
    · rw [List.sum_cons, List.length_cons]; omega
theorem down1_length (ns : List Int) : (down1 ns).length ≤ ns.length := by
  unfold down1
  rw [List.length_map]
  exact List.length_filter_le _ _
theorem turn_perm (ns : List Int) : (turn ns).Perm (down1 ns ++ [(ns.length : Int)]) := (insD_perm _ _).trans (List.perm_append_comm (l₁ := [(ns.length : Int)]) (l₂ := down1 ns))
theorem turn_eq {ns : List Int} (h : Falls ns) : turn ns = fall (down1 ns ++ [(ns.length : Int)]) := fall_eq (turn_perm ns) (insD_falls (down1_falls h))
theorem turn_set {n : Int} {ns : List Int} (h : IsSet n ns) : IsSet n (turn ns) := by
  refine ⟨⟨fun x hx => ?_, insD_falls (down1_falls h.1.falls), fun e => ?_⟩, ?_⟩
  · rcases insD_mem.mp hx with rfl | hx
    · have := h.ne
      omega
    · exact (mem_down1.mp hx).2
  · have : (turn ns).length = (down1 ns).length + 1 := (insD_perm _ _).length_eq
    rw [e] at this
    simp at this
  · rw [show (turn ns).sum = _ from perm_sum (insD_perm _ _), List.sum_cons]
    have := down1_sum h.1.pos
    rw [h.2] at this
    omega
theorem turn_length (ns : List Int) : (turn ns).length ≤ ns.length + 1 := by
  have : (turn ns).length = (down1 ns).length + 1 := (insD_perm _ _).length_eq
  have := down1_length ns
  omega

/-! ### the stair -/
def stairUp : Nat → Nat → Nat → Nat
  | 0, s, _ => s
  | f + 1, s, n => if s * (s + 1) < 2 * n then stairUp f (s + 1) n else s
def stair (n : Nat) : Nat := stairUp n 1 n
theorem sq_mono {a b : Nat} (h : a ≤ b) : a * (a + 1) ≤ b * (b + 1) := Nat.mul_le_mul h (Nat.succ_le_succ h)
theorem le_sq (a : Nat) : a ≤ a * (a + 1) := Nat.le_mul_of_pos_right a (Nat.succ_pos a)
theorem stairUp_spec : ∀ (f s n : Nat), n ≤ f + s → 1 ≤ s → (s - 1) * s < 2 * n → 1 ≤ stairUp f s n ∧ (stairUp f s n - 1) * stairUp f s n < 2 * n ∧ 2 * n ≤ stairUp f s n * (stairUp f s n + 1)
  | 0, s, n, h, h1, h2 => by
    refine ⟨h1, h2, ?_⟩
    show 2 * n ≤ s * (s + 1)
    have : s * 2 ≤ s * (s + 1) := Nat.mul_le_mul_left s (by omega)
    omega
  | f + 1, s, n, h, h1, h2 => by
    unfold stairUp
    split
    · rename_i c
      exact stairUp_spec f (s + 1) n (by omega) (by omega) (by rw [Nat.add_sub_cancel]; exact c)
    · rename_i c
      exact ⟨h1, h2, by omega⟩
theorem stair_spec {n : Nat} (h : 1 ≤ n) : 1 ≤ stair n ∧ (stair n - 1) * stair n < 2 * n ∧ 2 * n ≤ stair n * (stair n + 1) := stairUp_spec n 1 n (by omega) (Nat.le_refl _) (by omega)
theorem stair_uniq {n s : Nat} (h : 1 ≤ n) (h1 : 1 ≤ s) (h2 : (s - 1) * s < 2 * n) (h3 : 2 * n ≤ s * (s + 1)) : s = stair n := by
  obtain ⟨a, b, c⟩ := stair_spec h
  generalize stair n = t at *
  rcases Nat.lt_trichotomy s t with l | e | l
  · have := sq_mono (show s ≤ t - 1 by omega)
    rw [show t - 1 + 1 = t by omega] at this
    omega
  · exact e
  · have := sq_mono (show t ≤ s - 1 by omega)
    rw [show s - 1 + 1 = s by omega] at this
    omega
theorem stair_le {n : Nat} (h : 1 ≤ n) {b : Nat} (hb : 2 * n ≤ b * (b + 1)) (h1 : 1 ≤ b) : stair n ≤ b := by
  obtain ⟨_, b1, _⟩ := stair_spec h
  rcases Nat.lt_or_ge b (stair n) with l | l
  · have := sq_mono (show b ≤ stair n - 1 by omega)
    rw [show stair n - 1 + 1 = stair n by omega] at this
    omega
  · exact l
/-- the ones of n coins' marks -/
def restOf (n : Nat) : Nat := n - stair n * (stair n - 1) / 2
theorem half_sq (s : Nat) : 2 * (s * (s + 1) / 2) = s * (s + 1) := by
  have h : s * (s + 1) % 2 = 0 := by
    rcases Nat.mod_two_eq_zero_or_one s with e | e
    · rw [Nat.mul_mod, e, Nat.zero_mul]
    · rw [Nat.mul_mod, Nat.add_mod, e]
  omega
theorem half_sq' {s : Nat} (h : 1 ≤ s) : 2 * (s * (s - 1) / 2) = s * (s - 1) := by
  have := half_sq (s - 1)
  rw [show s - 1 + 1 = s by omega, Nat.mul_comm (s - 1) s] at this
  exact this
theorem rest_spec {n : Nat} (h : 1 ≤ n) : 1 ≤ restOf n ∧ restOf n ≤ stair n ∧ n = stair n * (stair n - 1) / 2 + restOf n := by
  obtain ⟨a, b, c⟩ := stair_spec h
  have e := half_sq' a
  unfold restOf
  have d : stair n * (stair n + 1) = stair n * (stair n - 1) + 2 * stair n := by
    rw [← Nat.mul_comm (stair n) 2, ← Nat.mul_add]
    congr 1
    omega
  rw [Nat.mul_comm] at b
  omega
/-! ### marks -/
def mk : List Int → List Int
  | [] => []
  | m :: r => ((r.length : Int) + m) :: mk r
def ofMarks (ms : List Int) : List Int := (mk ms).filter fun z => decide (z > 0)
theorem mk_length : ∀ ms : List Int, (mk ms).length = ms.length
  | [] => rfl
  | _ :: r => congrArg (· + 1) (mk_length r)
theorem mk_get : ∀ {ms : List Int} {i : Nat} {m : Int}, ms[i]? = some m → (mk ms)[i]? = some ((ms.length : Int) - 1 - i + m)
  | [], _, _, h => by simp at h
  | a :: r, 0, m, h => by
    have e : a = m := Option.some.inj h
    subst e
    show some ((r.length : Int) + a) = some (((r.length + 1 : Nat) : Int) - 1 - ((0 : Nat) : Int) + a)
    congr 1
    omega
  | a :: r, i + 1, m, h => by
    have ih := mk_get (ms := r) (i := i) (m := m) h
    show (mk r)[i]? = some (((r.length + 1 : Nat) : Int) - 1 - ((i + 1 : Nat) : Int) + m)
    rw [ih]
    congr 1
    omega
/-- noughts and ones -/
def Bits (ms : List Int) : Prop := ∀ m ∈ ms, m = 0 ∨ m = 1
theorem mk_bits : ∀ {ms : List Int}, Bits ms → (∀ z ∈ mk ms, 0 ≤ z ∧ z ≤ ms.length) ∧ Falls (mk ms)
  | [], _ => ⟨fun _ h => (by cases h), List.Pairwise.nil⟩
  | m :: r, h => by
    have hm := h m (List.mem_cons_self ..)
    obtain ⟨h1, h2⟩ := mk_bits (ms := r) fun z hz => h z (List.mem_cons_of_mem _ hz)
    refine ⟨fun z hz => ?_, List.pairwise_cons.mpr ⟨fun z hz => ?_, h2⟩⟩
    · rw [List.length_cons]
      rcases List.mem_cons.mp hz with rfl | hz
      · omega
      · have := h1 z hz
        omega
    · have := h1 z hz
      show z ≤ (r.length : Int) + m
      omega
theorem mk_sum : ∀ ms : List Int, (mk ms).sum = ((ms.length * (ms.length - 1) / 2 : Nat) : Int) + ms.sum
  | [] => rfl
  | m :: r => by
    have ih := mk_sum r
    show ((r.length : Int) + m) + (mk r).sum = _
    rw [ih, List.sum_cons, List.length_cons]
    have e1 := half_sq r.length
    have e2 : 2 * (r.length * (r.length - 1) / 2) = r.length * (r.length - 1) := by
      rcases Nat.eq_zero_or_pos r.length with e | e
      · rw [e]
      · exact half_sq' e
    rw [Nat.add_sub_cancel, Nat.mul_comm (r.length + 1) r.length]
    have e3 : r.length * (r.length + 1) = r.length * (r.length - 1) + 2 * r.length := by
      rcases Nat.eq_zero_or_pos r.length with e | e
      · rw [e]
      · rw [← Nat.mul_comm r.length 2, ← Nat.mul_add]
        congr 1
        omega
    omega
theorem filter_pos_sum : ∀ {l : List Int}, (∀ z ∈ l, 0 ≤ z) → (l.filter fun z => decide (z > 0)).sum = l.sum
  | [], _ => rfl
  | x :: r, h => by
    have h1 := h x (List.mem_cons_self ..)
    have ih := filter_pos_sum (l := r) fun z hz => h z (List.mem_cons_of_mem _ hz)
    rw [List.filter_cons]
    by_cases c : x > 0
    · rw [if_pos (decide_eq_true c), List.sum_cons, List.sum_cons, ih]
    · rw [if_neg (by simp only [decide_eq_true_eq]; exact c), List.sum_cons, ih]
      omega
theorem ofMarks_set {n : Nat} (hn : 1 ≤ n) {ms : List Int} (hb : Bits ms) (hl : ms.length = stair n) (hs : ms.sum = (restOf n : Int)) : IsSet n (ofMarks ms) := by
  obtain ⟨h1, h2⟩ := mk_bits hb
  have hsum : (ofMarks ms).sum = (n : Int) := by
    unfold ofMarks
    rw [filter_pos_sum fun z hz => (h1 z hz).1, mk_sum, hs, hl]
    have := (rest_spec hn).2.2
    omega
  refine ⟨⟨fun x hx => ?_, ?_, fun e => ?_⟩, hsum⟩
  · have := of_decide_eq_true (List.mem_filter.mp hx).2
    omega
  · exact List.Pairwise.filter _ h2
  · rw [e] at hsum
    have : (0 : Int) = n := hsum
    omega
/-! ### elders: what the pile at a place was not yet -/
def elderAt (ns : List Int) (j : Nat) (p : Int) : List Int := ((ns.take j ++ ns.drop (j + 1)).map (· + 1)) ++ List.replicate (p - ((ns.length : Int) - 1)).toNat 1
theorem sum_replicate (n : Nat) : (List.replicate n (1 : Int)).sum = n := by
  induction n with
  | zero => rfl
  | succ n ih => rw [List.replicate_succ, List.sum_cons, ih]; omega
theorem sum_map_add1 : ∀ l : List Int, (l.map (· + 1)).sum = l.sum + l.length
  | [] => rfl
  | x :: r => by
    have ih := sum_map_add1 r
    rw [List.map_cons, List.sum_cons, List.sum_cons, ih, List.length_cons]
    omega
theorem take_drop_sum : ∀ {ns : List Int} {j : Nat} {p : Int}, ns[j]? = some p → (ns.take j ++ ns.drop (j + 1)).sum + p = ns.sum ∧ (ns.take j ++ ns.drop (j + 1)).length + 1 = ns.length
  | [], _, _, h => by simp at h
  | a :: r, 0, p, h => by
    have e : a = p := Option.some.inj h
    subst e
    refine ⟨?_, rfl⟩
    show r.sum + a = (a :: r).sum
    rw [List.sum_cons]
    omega
  | a :: r, j + 1, p, h => by
    obtain ⟨h1, h2⟩ := take_drop_sum (ns := r) (j := j) (p := p) h
    refine ⟨?_, ?_⟩
    · show (a :: (r.take j ++ r.drop (j + 1))).sum + p = (a :: r).sum
      rw [List.sum_cons, List.sum_cons]
      omega
    · show (r.take j ++ r.drop (j + 1)).length + 1 + 1 = r.length + 1
      omega
theorem take_drop_sub (ns : List Int) (j : Nat) : (ns.take j ++ ns.drop (j + 1)).Sublist ns := by
  have h := (List.Sublist.refl (ns.take j)).append (List.drop_sublist 1 (ns.drop j))
  rw [List.take_append_drop, List.drop_drop] at h
  exact h
theorem elder_set {n : Int} {ns : List Int} (h : IsSet n ns) {j : Nat} {p : Int} (hp : ns[j]? = some p) (hb : p ≥ (ns.length : Int) - 1) : IsSet n (elderAt ns j p) := by
  obtain ⟨s1, s2⟩ := take_drop_sum hp
  have sub := take_drop_sub ns j
  have h1 := h.1.pos p (List.mem_of_getElem? hp)
  refine ⟨⟨fun x hx => ?_, ?_, fun e => ?_⟩, ?_⟩
  · rcases List.mem_append.mp hx with hx | hx
    · obtain ⟨y, hy, rfl⟩ := List.mem_map.mp hx
      have := h.1.pos y (sub.subset hy)
      omega
    · rw [List.eq_of_mem_replicate hx]
      exact Int.le_refl 1
  · refine List.pairwise_append.mpr ⟨?_, ?_, fun a ha b hb => ?_⟩
    · rw [List.pairwise_map]
      exact (h.1.falls.sublist sub).imp fun h => by omega
    · exact List.pairwise_replicate.mpr (.inr (Int.le_refl 1))
    · obtain ⟨y, hy, rfl⟩ := List.mem_map.mp ha
      have := h.1.pos y (sub.subset hy)
      rw [List.eq_of_mem_replicate hb]
      omega
  · have := congrArg List.length e
    unfold elderAt at this
    rw [List.length_append, List.length_map, List.length_replicate, List.length_nil] at this
    omega
  · unfold elderAt
    rw [List.sum_append, sum_map_add1, sum_replicate]
    have := h.2
    omega

/-! ### ways to choose, rings counted -/
def choN (a : Nat) : Nat → Nat
  | 0 => 1
  | k + 1 => choN a k * (a - k) / (k + 1)
def sumTo (f : Nat → Nat) : Nat → Nat
  | 0 => 0
  | i + 1 => sumTo f i + f i
/-- what the program adds at a turning -/
def ringT (s r t : Nat) : Nat := if r % (s / Nat.gcd s t) = 0 then choN (Nat.gcd s t) (r / (s / Nat.gcd s t)) else 0
def freeN (p : Nat) : Nat := sumTo (fun k => if Nat.gcd (k + 1) p = 1 then 1 else 0) p
/-- what the law adds at a part -/
def partT (s r i : Nat) : Nat := if s % (i + 1) = 0 ∧ r % (i + 1) = 0 then freeN (i + 1) * choN (s / (i + 1)) (r / (i + 1)) else 0
def ringsN (s r : Nat) : Nat := sumTo (ringT s r) s / s
def burnOk (s : Nat) : Bool := (List.range (s + 1)).all fun r => r == 0 || ringsN s r * s == sumTo (partT s r) s
theorem burn_all : (List.range 64).all burnOk = true := by decide +kernel
theorem burn {s r : Nat} (hs : s ≤ 63) (h1 : 1 ≤ r) (hr : r ≤ s) : ringsN s r * s = sumTo (partT s r) s := by
  have h := List.all_eq_true.mp burn_all s (List.mem_range.mpr (by omega))
  have h2 := List.all_eq_true.mp h r (List.mem_range.mpr (by omega))
  rcases Bool.or_eq_true_iff.mp h2 with e | e
  · have := beq_iff_eq.mp e
    omega
  · exact beq_iff_eq.mp e

/-! ### marks of a setting, rings -/
def marksAt (S : Nat) (ns : List Int) : List Int := (List.range S).map fun k : Nat => ns.getD k 0 - ((S : Int) - 1 - (k : Int))
def isBits (ms : List Int) : Bool := ms.all fun m => decide (0 ≤ m ∧ m ≤ 1)
def marksBy (ns : List Int) : List Int :=
  if stair ns.sum.toNat < ns.length then [] else if isBits (marksAt (stair ns.sum.toNat) ns) = true then marksAt (stair ns.sum.toNat) ns else []
theorem isBits_iff {ms : List Int} : isBits ms = true ↔ Bits ms := by
  unfold isBits Bits
  rw [List.all_eq_true]
  constructor
  · intro h m hm
    have := of_decide_eq_true (h m hm)
    omega
  · intro h m hm
    have := h m hm
    exact decide_eq_true (by omega)
theorem filter_pos_getD : ∀ {l : List Int} (k : Nat), (∀ z ∈ l, 0 ≤ z) → Falls l → (l.filter fun z => decide (z > 0)).getD k 0 = l.getD k 0
  | [], _, _, _ => rfl
  | x :: r, k, h, hf => by
    obtain ⟨f1, f2⟩ := List.pairwise_cons.mp hf
    have hr : ∀ z ∈ r, 0 ≤ z := fun z hz => h z (List.mem_cons_of_mem _ hz)
    rw [List.filter_cons]
    by_cases c : x > 0
    · rw [if_pos (decide_eq_true c)]
      cases k with
      | zero => rfl
      | succ k => exact filter_pos_getD k hr f2
    · rw [if_neg (by simp only [decide_eq_true_eq]; exact c)]
      have hx := h x (List.mem_cons_self ..)
      have hz : ∀ z ∈ r, z = 0 := fun z hz => by
        have a := f1 z hz
        have b := hr z hz
        omega
      have e : r.filter (fun z => decide (z > 0)) = [] := List.filter_eq_nil_iff.mpr fun z hz' => by
        rw [hz z hz']
        decide
      rw [e]
      cases k with
      | zero =>
        show (0 : Int) = x
        omega
      | succ k =>
        show (0 : Int) = r.getD k 0
        rw [List.getD_eq_getElem?_getD]
        cases hk : r[k]? with
        | none => rfl
        | some z =>
          rw [hz z (List.mem_of_getElem? hk)]
          rfl
theorem bits_sum_range : ∀ {ms : List Int}, Bits ms → 0 ≤ ms.sum ∧ ms.sum ≤ ms.length
  | [], _ => ⟨Int.le_refl _, Int.le_refl _⟩
  | m :: r, h => by
    have hm := h m (List.mem_cons_self ..)
    have ih := bits_sum_range (ms := r) fun z hz => h z (List.mem_cons_of_mem _ hz)
    rw [List.sum_cons, List.length_cons]
    omega
theorem ofMarks_sum {ms : List Int} (h : Bits ms) : (ofMarks ms).sum = ((ms.length * (ms.length - 1) / 2 : Nat) : Int) + ms.sum := by
  unfold ofMarks
  rw [filter_pos_sum fun z hz => ((mk_bits h).1 z hz).1, mk_sum]
theorem ofMarks_stair {ms : List Int} (h : Bits ms) (h1 : 1 ≤ ms.sum) : stair (ofMarks ms).sum.toNat = ms.length := by
  obtain ⟨b0, b1⟩ := bits_sum_range h
  have hl : 1 ≤ ms.length := by omega
  have e := ofMarks_sum h
  have e2 := half_sq' hl
  have e3 : ms.length * (ms.length + 1) = ms.length * (ms.length - 1) + 2 * ms.length := by
    rw [← Nat.mul_comm ms.length 2, ← Nat.mul_add]
    congr 1
    omega
  refine (stair_uniq (by omega) hl ?_ ?_).symm
  · rw [Nat.mul_comm]
    omega
  · omega
theorem ofMarks_len {ms : List Int} : (ofMarks ms).length ≤ ms.length := by
  have := List.length_filter_le (fun z => decide (z > 0)) (mk ms)
  rw [mk_length] at this
  exact this
theorem ofMarks_isSet {ms : List Int} (h : Bits ms) (h1 : 1 ≤ ms.sum) : IsSet (ofMarks ms).sum (ofMarks ms) := by
  obtain ⟨k1, k2⟩ := mk_bits h
  refine ⟨⟨fun x hx => ?_, List.Pairwise.filter _ k2, fun e => ?_⟩, rfl⟩
  · have := of_decide_eq_true (List.mem_filter.mp hx).2
    omega
  · have := ofMarks_sum h
    rw [e] at this
    have : (0 : Int) = ((ms.length * (ms.length - 1) / 2 : Nat) : Int) + ms.sum := this
    omega
theorem marksBy_of {ms : List Int} (h : Bits ms) (h1 : 1 ≤ ms.sum) : marksBy (ofMarks ms) = ms := by
  have hs := ofMarks_stair h h1
  have hl := ofMarks_len (ms := ms)
  have e : marksAt ms.length (ofMarks ms) = ms := by
    apply List.ext_getElem?
    intro k
    unfold marksAt
    by_cases hk : k < ms.length
    · have gk : ms[k]? = some ms[k] := List.getElem?_eq_getElem hk
      obtain ⟨k1, k2⟩ := mk_bits h
      have hd : (ofMarks ms).getD k 0 = (ms.length : Int) - 1 - k + ms[k] := by
        unfold ofMarks
        rw [filter_pos_getD k (fun z hz => (k1 z hz).1) k2, List.getD_eq_getElem?_getD, mk_get gk] <;> rfl
      rw [List.getElem?_map, List.getElem?_range hk, gk]
      show some ((ofMarks ms).getD k 0 - ((ms.length : Int) - 1 - (k : Int))) = some ms[k]
      rw [hd]
      congr 1
      omega
    · rw [List.getElem?_eq_none (by rw [List.length_map, List.length_range]; omega), List.getElem?_eq_none (by omega)]
  unfold marksBy
  rw [hs, if_neg (by omega), e, if_pos (isBits_iff.mpr h)]
/-! ### a turn is a turning of the marks -/
theorem mk_snoc : ∀ (l : List Int) (z : Int), mk (l ++ [z]) = (mk l).map (· + 1) ++ [z]
  | [], z => by
    show [((0 : Nat) : Int) + z] = [z]
    congr 1
    omega
  | m :: r, z => by
    show (((r ++ [z]).length : Int) + m) :: mk (r ++ [z]) = ((r.length : Int) + m + 1) :: ((mk r).map (· + 1) ++ [z])
    rw [mk_snoc r z, List.length_append, List.length_singleton]
    congr 1
    omega
theorem turn_marks {l : List Int} {z : Int} (h : Bits (l ++ [z])) (h1 : 1 ≤ (l ++ [z]).sum) : turn (ofMarks (l ++ [z])) = ofMarks (z :: l) := by
  have hl : Bits l := fun m hm => h m (List.mem_append_left _ hm)
  have hz : z = 0 ∨ z = 1 := h z (List.mem_append_right _ (List.mem_singleton.mpr rfl))
  obtain ⟨k1, k2⟩ := mk_bits hl
  have hf : ((mk l).map (· + 1)).filter (fun x => decide (x > 0)) = (mk l).map (· + 1) := List.filter_eq_self.mpr fun x hx => by
    obtain ⟨y, hy, rfl⟩ := List.mem_map.mp hx
    have := (k1 y hy).1
    exact decide_eq_true (by omega)
  have e1 : ofMarks (l ++ [z]) = (mk l).map (· + 1) ++ [z].filter (fun x => decide (x > 0)) := by
    unfold ofMarks
    rw [mk_snoc, List.filter_append, hf]
  have hd : down1 (ofMarks (l ++ [z])) = ofMarks l := by
    rw [e1]
    unfold down1 ofMarks
    rw [List.filter_append, List.map_append, List.filter_map, List.map_map]
    have a : (mk l).filter ((fun z => decide (z > 1)) ∘ fun x => x + 1) = (mk l).filter fun x => decide (x > 0) := by
      congr 1
      funext x
      show decide (x + 1 > 1) = decide (x > 0)
      by_cases c : x > 0
      · rw [decide_eq_true c, decide_eq_true (by omega)]
      · rw [decide_eq_false c, decide_eq_false (by omega)]
    have b : ([z].filter (fun x => decide (x > 0))).filter (fun z => decide (z > 1)) = [] := by
      rcases hz with rfl | rfl <;> rfl
    rw [a, b, List.map_nil, List.append_nil]
    have c : (fun x : Int => x - 1) ∘ (fun x => x + 1) = id := by
      funext x
      show x + 1 - 1 = x
      omega
    rw [c, List.map_id]
  have hlen : ((ofMarks (l ++ [z])).length : Int) = (l.length : Int) + z := by
    rw [e1, List.length_append, List.length_map, mk_length]
    rcases hz with rfl | rfl
    · show ((l.length + 0 : Nat) : Int) = (l.length : Int) + 0
      omega
    · show ((l.length + 1 : Nat) : Int) = (l.length : Int) + 1
      omega
  have hpos : (l.length : Int) + z > 0 := by
    obtain ⟨b0, b1⟩ := bits_sum_range hl
    rw [List.sum_append, List.sum_cons, List.sum_nil] at h1
    omega
  unfold turn
  rw [hd, hlen]
  have e2 : ofMarks (z :: l) = ((l.length : Int) + z) :: ofMarks l := by
    show (((l.length : Int) + z) :: mk l).filter _ = _
    rw [List.filter_cons, if_pos (decide_eq_true hpos)] <;> rfl
  rw [e2]
  cases hol : ofMarks l with
  | nil => rfl
  | cons y r =>
    unfold insD
    rw [if_neg]
    have hy : y ∈ mk l := (List.mem_filter.mp (show y ∈ ofMarks l by rw [hol]; exact List.mem_cons_self ..)).1
    have := (k1 y hy).2
    omega
/-! ### turns one behind another -/
def turnN : Nat → List Int → List Int
  | 0, x => x
  | n + 1, x => turnN n (turn x)
theorem turnN_succ : ∀ (n : Nat) (x : List Int), turnN (n + 1) x = turn (turnN n x)
  | 0, _ => rfl
  | n + 1, x => turnN_succ n (turn x)
theorem turnN_add : ∀ (a b : Nat) (x : List Int), turnN (a + b) x = turnN a (turnN b x)
  | a, 0, x => rfl
  | a, b + 1, x => turnN_add a b (turn x)
theorem turnN_set {n : Int} : ∀ {j : Nat} {x : List Int}, IsSet n x → IsSet n (turnN j x)
  | 0, _, h => h
  | j + 1, _, h => turnN_set (j := j) (turn_set h)
/-- a ring of d settings from x on -/
structure Ring (x : List Int) (d : Nat) : Prop where
  pos : 1 ≤ d
  back : turnN d x = x
  first : ∀ j, 0 < j → j < d → turnN j x ≠ x
theorem Ring.inj {x : List Int} {d : Nat} (h : Ring x d) {i j : Nat} (hij : i < j) (hj : j < d) : turnN i x ≠ turnN j x := fun e => by
  have h1 : turnN (d - i) (turnN i x) = x := by
    rw [← turnN_add, show d - i + i = d by omega, h.back]
  have h2 : turnN (d - i) (turnN j x) = turnN (j - i) x := by
    rw [← turnN_add, show d - i + j = (j - i) + d by omega, turnN_add, h.back]
  rw [e, h2] at h1
  exact h.first (j - i) (by omega) (by omega) h1
theorem least_of {p : Nat → Prop} : ∀ n : Nat, p n → ∃ d, d ≤ n ∧ p d ∧ ∀ j, j < d → ¬ p j := fun n => by
  induction n using Nat.strongRecOn with
  | ind n ih =>
    intro hn
    by_cases h : ∃ j, j < n ∧ p j
    · obtain ⟨j, hj, hp⟩ := h
      obtain ⟨d, h1, h2, h3⟩ := ih j hj hp
      exact ⟨d, by omega, h2, h3⟩
    · exact ⟨n, Nat.le_refl _, hn, fun j hj hp => h ⟨j, hj, hp⟩⟩
theorem ring_ex {x : List Int} {S : Nat} (h1 : 1 ≤ S) (h : turnN S x = x) : ∃ d, d ≤ S ∧ Ring x d := by
  obtain ⟨d, a, ⟨b1, b2⟩, c⟩ := least_of (p := fun d => 1 ≤ d ∧ turnN d x = x) S ⟨h1, h⟩
  exact ⟨d, a, b1, b2, fun j h0 hj e => c j hj ⟨h0, e⟩⟩
/-- the settings of a ring -/
def ringL (d : Nat) (x : List Int) : List (List Int) := (List.range d).map fun j => turnN j x
theorem ringL_succ (d : Nat) (x : List Int) : ringL (d + 1) x = ringL d x ++ [turnN d x] := by
  unfold ringL
  rw [List.range_succ, List.map_append] <;> rfl
theorem ringL_len (d : Nat) (x : List Int) : (ringL d x).length = d := by
  unfold ringL
  rw [List.length_map, List.length_range]
theorem mem_ringL {d : Nat} {x y : List Int} : y ∈ ringL d x ↔ ∃ j, j < d ∧ turnN j x = y := by
  unfold ringL
  simp only [List.mem_map, List.mem_range]
/-! ### marks turned round -/
def rot : List Int → List Int := fun ms => ms.getLast?.toList ++ ms.dropLast
theorem rot_snoc (l : List Int) (z : Int) : rot (l ++ [z]) = z :: l := by
  unfold rot
  rw [List.getLast?_concat, List.dropLast_concat] <;> rfl
def rotN : Nat → List Int → List Int
  | 0, x => x
  | n + 1, x => rot (rotN n x)
theorem rotN_split : ∀ (b a : List Int), ∀ j, j = b.length → rotN j (a ++ b) = b ++ a := by
  intro b a j
  induction j generalizing a b with
  | zero =>
    intro h
    have : b = [] := List.eq_nil_of_length_eq_zero h.symm
    subst this
    show a ++ [] = [] ++ a
    rw [List.append_nil, List.nil_append]
  | succ j ih =>
    intro h
    match b, h with
    | y :: r, h =>
      have e1 : a ++ y :: r = (a ++ [y]) ++ r := by rw [List.append_assoc] <;> rfl
      show rot (rotN j (a ++ y :: r)) = y :: r ++ a
      rw [e1, ih r (a ++ [y]) (by simpa using h), ← List.append_assoc, rot_snoc] <;> rfl
theorem rotN_len (ms : List Int) : rotN ms.length ms = ms := by
  have := rotN_split ms [] ms.length rfl
  rw [List.nil_append, List.append_nil] at this
  exact this
theorem snoc_of : ∀ {ms : List Int}, ms ≠ [] → ∃ l z, ms = l ++ [z] := fun {ms} h => ⟨ms.dropLast, ms.getLast h, (List.dropLast_concat_getLast h).symm⟩
theorem rot_facts {ms : List Int} (h : Bits ms) (h1 : 1 ≤ ms.sum) : Bits (rot ms) ∧ (rot ms).sum = ms.sum ∧ (rot ms).length = ms.length ∧ turn (ofMarks ms) = ofMarks (rot ms) := by
  obtain ⟨l, z, rfl⟩ := snoc_of (ms := ms) (fun e => by rw [e] at h1; exact absurd h1 (by decide))
  rw [rot_snoc]
  refine ⟨fun m hm => ?_, ?_, ?_, turn_marks h h1⟩
  · rcases List.mem_cons.mp hm with rfl | hm
    · exact h m (List.mem_append_right _ (List.mem_singleton.mpr rfl))
    · exact h m (List.mem_append_left _ hm)
  · rw [List.sum_cons, List.sum_append, List.sum_cons, List.sum_nil]
    omega
  · rw [List.length_cons, List.length_append, List.length_singleton]
theorem rotN_facts {ms : List Int} (h : Bits ms) (h1 : 1 ≤ ms.sum) : ∀ j, Bits (rotN j ms) ∧ (rotN j ms).sum = ms.sum ∧ (rotN j ms).length = ms.length ∧ turnN j (ofMarks ms) = ofMarks (rotN j ms)
  | 0 => ⟨h, rfl, rfl, rfl⟩
  | j + 1 => by
    obtain ⟨a, b, c, d⟩ := rotN_facts h h1 j
    obtain ⟨a', b', c', d'⟩ := rot_facts a (by omega)
    refine ⟨a', by show (rot (rotN j ms)).sum = _; omega, by show (rot (rotN j ms)).length = _; omega, ?_⟩
    rw [turnN_succ, d, d'] <;> rfl
theorem ofMarks_ring {ms : List Int} (h : Bits ms) (h1 : 1 ≤ ms.sum) : ∃ d, d ≤ ms.length ∧ Ring (ofMarks ms) d := by
  have hl : 1 ≤ ms.length := by
    have := bits_sum_range h
    omega
  refine ring_ex hl ?_
  rw [(rotN_facts h h1 ms.length).2.2.2, rotN_len]

/-! ### the solitaire comes round: N t j piles of at least j coins after t turns -/
def cn (p : Nat → Bool) : Nat → Nat
  | 0 => 0
  | m + 1 => cn p m + if p m = true then 1 else 0
theorem cn_mono {p q : Nat → Bool} : ∀ {m : Nat}, (∀ i, i < m → p i = true → q i = true) → cn p m ≤ cn q m
  | 0, _ => Nat.le_refl _
  | m + 1, h => by
    have ih := cn_mono (p := p) (q := q) (m := m) fun i hi => h i (by omega)
    show cn p m + _ ≤ cn q m + _
    have := h m (by omega)
    by_cases c : p m = true
    · rw [if_pos c, if_pos (this c)]
      omega
    · rw [if_neg c]
      omega
theorem cn_more (p : Nat → Bool) {m m' : Nat} (h : m ≤ m') : cn p m ≤ cn p m' := by
  induction m' with
  | zero =>
    obtain rfl : m = 0 := by omega
    exact Nat.le_refl _
  | succ m' ih =>
    rcases Nat.lt_or_ge m (m' + 1) with l | l
    · have := ih (by omega)
      show _ ≤ cn p m' + _
      omega
    · obtain rfl : m = m' + 1 := by omega
      exact Nat.le_refl _
theorem cn_stop {p : Nat → Bool} {m : Nat} : ∀ {m' : Nat}, m ≤ m' → (∀ i, m ≤ i → i < m' → p i = false) → cn p m' = cn p m
  | 0, h, _ => by
    obtain rfl : m = 0 := by omega
    rfl
  | m' + 1, h, hp => by
    rcases Nat.lt_or_ge m (m' + 1) with l | l
    · have ih := cn_stop (p := p) (m := m) (m' := m') (by omega) fun i h1 h2 => hp i h1 (by omega)
      show cn p m' + _ = _
      rw [hp m' (by omega) (by omega), ih]
      rfl
    · obtain rfl : m = m' + 1 := by omega
      rfl
theorem cn_sub {p q : Nat → Bool} {m m' : Nat} (h : ∀ i, i < m → p i = true → i < m' ∧ q i = true) : cn p m ≤ cn q m' := by
  rcases Nat.le_total m m' with l | l
  · exact Nat.le_trans (cn_mono fun i hi c => (h i hi c).2) (cn_more q l)
  · rw [cn_stop (p := p) l fun i h1 h2 => by
      cases c : p i with
      | false => rfl
      | true =>
        have := (h i h2 c).1
        omega]
    exact cn_mono fun i hi c => (h i (by omega) c).2
theorem cn_shift (p : Nat → Bool) : ∀ m, cn p (m + 1) = (if p 0 = true then 1 else 0) + cn (fun i => p (i + 1)) m
  | 0 => Nat.zero_add _
  | m + 1 => by
    have ih := cn_shift p m
    show cn p (m + 1) + (if p (m + 1) = true then 1 else 0) = (if p 0 = true then 1 else 0) + (cn (fun i => p (i + 1)) m + (if p (m + 1) = true then 1 else 0))
    rw [ih, Nat.add_assoc]
theorem cn_le (p : Nat → Bool) : ∀ m, cn p m ≤ m
  | 0 => Nat.le_refl _
  | m + 1 => by
    have := cn_le p m
    show cn p m + _ ≤ _
    split <;> omega
theorem cn_all {p : Nat → Bool} : ∀ {m : Nat}, (∀ i, i < m → p i = true) → cn p m = m
  | 0, _ => rfl
  | m + 1, h => by
    show cn p m + _ = _
    rw [cn_all fun i hi => h i (by omega), if_pos (h m (by omega))]
/-- the sum of f 1 .. f m -/
def su (f : Nat → Nat) : Nat → Nat
  | 0 => 0
  | m + 1 => su f m + f (m + 1)
theorem su_mono {f g : Nat → Nat} : ∀ {m : Nat}, (∀ j, 1 ≤ j → j ≤ m → f j ≤ g j) → su f m ≤ su g m
  | 0, _ => Nat.le_refl _
  | m + 1, h => by
    have ih := su_mono (f := f) (g := g) (m := m) fun j h1 h2 => h j h1 (by omega)
    have := h (m + 1) (by omega) (by omega)
    show su f m + _ ≤ su g m + _
    omega
/-- numbers of piles, turn by turn -/
structure Sys (N : Nat → Nat → Nat) (n : Nat) : Prop where
  step : ∀ t j, 1 ≤ j → N (t + 1) j = N t (j + 1) + if j ≤ N t 1 then 1 else 0
  anti : ∀ t j, N t (j + 1) ≤ N t j
  sum : ∀ t m, su (N t) m ≤ n
  all : ∀ t m, n ≤ m → su (N t) m = n
/-- the pile that the s-th turn makes -/
def nx (N : Nat → Nat → Nat) (s : Nat) : Nat := N (s - 1) 1
section
variable {N : Nat → Nat → Nat} {n : Nat}
theorem Sys.form (S : Sys N n) : ∀ (t j : Nat), 1 ≤ j → N t j = N 0 (j + t) + cn (fun i => decide (j + i ≤ nx N (t - i))) t
  | 0, j, _ => rfl
  | t + 1, j, hj => by
    have ih := S.form t (j + 1) (by omega)
    rw [S.step t j hj, ih, cn_shift]
    have e1 : (fun i => decide (j + 1 + i ≤ nx N (t - i))) = fun i => decide (j + (i + 1) ≤ nx N (t + 1 - (i + 1))) := by
      funext i
      rw [show t + 1 - (i + 1) = t - i by omega, show j + 1 + i = j + (i + 1) by omega]
    have e2 : (if j ≤ N t 1 then 1 else 0) = if decide (j + 0 ≤ nx N (t + 1 - 0)) = true then 1 else 0 := by
      show _ = if decide (j ≤ N t 1) = true then 1 else 0
      by_cases c : j ≤ N t 1
      · rw [if_pos c, if_pos (decide_eq_true c)]
      · rw [if_neg c, if_neg (fun h => c (of_decide_eq_true h))]
    rw [e1, e2, show j + 1 + t = j + (t + 1) by omega]
    omega
theorem Sys.le_n (S : Sys N n) (t j : Nat) (hj : 1 ≤ j) : N t j ≤ n := by
  have h1 := S.sum t j
  obtain ⟨m, rfl⟩ : ∃ m, j = m + 1 := ⟨j - 1, by omega⟩
  have h2 : su (N t) (m + 1) = su (N t) m + N t (m + 1) := rfl
  omega
theorem anti_le (S : Sys N n) (t : Nat) {i j : Nat} (h : i ≤ j) : N t j ≤ N t i := by
  induction j with
  | zero =>
    obtain rfl : i = 0 := by omega
    exact Nat.le_refl _
  | succ j ih =>
    rcases Nat.lt_or_ge i (j + 1) with l | l
    · exact Nat.le_trans (S.anti t j) (ih (by omega))
    · obtain rfl : i = j + 1 := by omega
      exact Nat.le_refl _
theorem su_ge {f : Nat → Nat} : ∀ {m : Nat}, (∀ j, 1 ≤ j → j ≤ m → 1 ≤ f j) → m ≤ su f m
  | 0, _ => Nat.le_refl _
  | m + 1, h => by
    have ih := su_ge (f := f) (m := m) fun j h1 h2 => h j h1 (by omega)
    have := h (m + 1) (by omega) (by omega)
    show _ ≤ su f m + f (m + 1)
    omega
theorem Sys.none (S : Sys N n) (t : Nat) {j : Nat} (h : n < j) : N t j = 0 := by
  rcases Nat.eq_zero_or_pos (N t j) with e | e
  · exact e
  · have h1 := su_ge (f := N t) (m := j) fun i h1 h2 => Nat.le_trans e (anti_le S t h2)
    have h2 := S.sum t j
    omega
/-- slowly up -/
theorem Sys.up1 (S : Sys N n) {c : Nat} (h : 1 ≤ c) : nx N (c + 1) ≤ nx N c + 1 := by
  obtain ⟨t, rfl⟩ : ∃ t, c = t + 1 := ⟨c - 1, by omega⟩
  show N (t + 1) 1 ≤ N t 1 + 1
  rw [S.step t 1 (Nat.le_refl _)]
  have := S.anti t 1
  split <;> omega
theorem Sys.ups (S : Sys N n) : ∀ (i c : Nat), i < c → nx N c ≤ nx N (c - i) + i
  | 0, c, _ => Nat.le_refl _
  | i + 1, c, h => by
    have ih := S.ups i c (by omega)
    have := S.up1 (c := c - (i + 1)) (by omega)
    rw [show c - (i + 1) + 1 = c - i by omega] at this
    omega
/-- the step: OLEINIK -/
theorem Sys.lap (S : Sys N n) {c d : Nat} (hc : n < c) (hd : 1 ≤ d) (hcd : d + 1 < c) (h : ∀ z, z + 1 < c → c ≤ z + nx N z → d < z ∧ nx N z ≤ nx N (z - d) + 1) : nx N c ≤ nx N (c - (d + 1)) + 1 := by
  have f1 := S.form (c - 1) 1 (Nat.le_refl _)
  have f2 := S.form (c - (d + 1) - 1) 1 (Nat.le_refl _)
  have e0 : N 0 (1 + (c - 1)) = 0 := S.none 0 (by omega)
  rw [e0] at f1
  have g1 : nx N c = cn (fun i => decide (1 + i ≤ nx N (c - 1 - i))) (c - 1) := by
    show N (c - 1) 1 = _
    omega
  have g2 : cn (fun i => decide (1 + i ≤ nx N (c - (d + 1) - 1 - i))) (c - (d + 1) - 1) ≤ nx N (c - (d + 1)) := by
    show _ ≤ N (c - (d + 1) - 1) 1
    omega
  obtain ⟨m, em⟩ : ∃ m, c - 1 = m + 1 := ⟨c - 2, by omega⟩
  rw [em, cn_shift] at g1
  have key : cn (fun i => decide (1 + (i + 1) ≤ nx N (m + 1 - (i + 1)))) m ≤ cn (fun i => decide (1 + i ≤ nx N (c - (d + 1) - 1 - i))) (c - (d + 1) - 1) := by
    refine cn_sub fun i hi hp => ?_
    have hp := of_decide_eq_true hp
    have := h (m - i) (by omega) (by rw [show m + 1 - (i + 1) = m - i by omega] at hp; omega)
    rw [show m + 1 - (i + 1) = m - i by omega] at hp
    refine ⟨by omega, decide_eq_true ?_⟩
    rw [show c - (d + 1) - 1 - i = m - i - d by omega]
    omega
  have : (if decide (1 + 0 ≤ nx N (m + 1 - 0)) = true then 1 else 0) ≤ 1 := by split <;> omega
  omega
/-- no pile of twenty -/
theorem Sys.small (S : Sys N n) (hn : n ≤ 105) {c : Nat} (hc : 10 ≤ c) : nx N c ≤ 19 := by
  rcases Nat.lt_or_ge 19 (nx N c) with l | l
  · exfalso
    have h1 := S.sum c 20
    have h2 : su (fun j => cn (fun i => decide (j + i ≤ 20 - i)) 10) 20 ≤ su (N c) 20 := su_mono fun j j1 _ => by
      rw [S.form c j j1]
      refine Nat.le_trans ?_ (Nat.le_add_left _ _)
      refine cn_sub fun i hi hp => ⟨by omega, decide_eq_true ?_⟩
      have hp := of_decide_eq_true hp
      have := S.ups i c (by omega)
      omega
    have h3 : su (fun j => cn (fun i => decide (j + i ≤ 20 - i)) 10) 20 = 110 := by decide +kernel
    omega
  · exact l
end

section
variable {N : Nat → Nat → Nat} {n : Nat}
theorem Sys.laps (S : Sys N n) (hn : n ≤ 105) : ∀ d c, 1 ≤ d → n + 11 + 19 * (d - 1) ≤ c → nx N c ≤ nx N (c - d) + 1
  | 0, _, h, _ => by omega
  | 1, c, _, hc => by
    have := S.up1 (c := c - 1) (by omega)
    rw [show c - 1 + 1 = c by omega] at this
    exact this
  | d + 2, c, _, hc => by
    refine S.lap (d := d + 1) (by omega) (by omega) (by omega) fun z hz hl => ?_
    have h10 : 10 ≤ z := by
      have := S.le_n (z - 1) 1 (Nat.le_refl _)
      have : nx N z ≤ n := this
      omega
    have := S.small hn h10
    exact ⟨by omega, S.laps hn (d + 1) z (by omega) (by omega)⟩
theorem tri_su : ∀ k : Fin 15, 2 * su (fun j => k.1 + 1 - j) k.1 = k.1 * (k.1 + 1) := by decide +kernel
theorem su_stop {f : Nat → Nat} {m : Nat} : ∀ {m' : Nat}, m ≤ m' → (∀ j, m < j → f j = 0) → su f m' = su f m
  | 0, h, _ => by
    obtain rfl : m = 0 := by omega
    rfl
  | m' + 1, h, hf => by
    rcases Nat.lt_or_ge m (m' + 1) with l | l
    · show su f m' + f (m' + 1) = _
      rw [hf (m' + 1) (by omega), su_stop (m' := m') (by omega) hf, Nat.add_zero]
    · obtain rfl : m = m' + 1 := by omega
      rfl
/-- not above k -/
theorem Sys.top (S : Sys N n) (hn : n ≤ 105) {k c : Nat} (hk : 1 ≤ k) (hk2 : k ≤ 14) (h2 : 2 * n ≤ k * (k + 1)) (hc : n + 11 + 19 * (k - 1) ≤ c) : nx N c ≤ k := by
  rcases Nat.lt_or_ge k (nx N c) with l | l
  · exfalso
    have lo : ∀ i, 1 ≤ i → i ≤ k → k ≤ nx N (c - i) := fun i h1 h2 => by
      have := S.laps hn i c h1 (by omega)
      omega
    have a1 : su (fun j => k + 1 - j) k ≤ su (N c) k := su_mono fun j j1 j2 => by
      rw [S.form c j j1]
      refine Nat.le_trans ?_ (Nat.le_add_left _ _)
      have e : cn (fun _ => true) (k + 1 - j) = k + 1 - j := cn_all fun _ _ => rfl
      rw [← e]
      refine cn_sub fun i hi _ => ⟨by omega, decide_eq_true ?_⟩
      rcases Nat.eq_zero_or_pos i with e0 | e0
      · subst e0
        rw [Nat.sub_zero]
        omega
      · have := lo i e0 (by omega)
        omega
    have a2 : 1 ≤ N c (k + 1) := by
      rw [S.form c (k + 1) (by omega)]
      refine Nat.le_trans ?_ (Nat.le_add_left _ _)
      have e : cn (fun _ => true) 1 = 1 := rfl
      rw [← e]
      refine cn_sub fun i hi _ => ⟨by omega, decide_eq_true ?_⟩
      obtain rfl : i = 0 := by omega
      rw [Nat.sub_zero]
      omega
    have a3 := tri_su ⟨k, by omega⟩
    have a4 := S.sum c (k + 1)
    have a5 : su (N c) (k + 1) = su (N c) k + N c (k + 1) := rfl
    have a6 : 2 * su (fun j => k + 1 - j) k = k * (k + 1) := a3
    omega
  · exact l
/-- old piles are gone -/
theorem Sys.gone (S : Sys N n) (hn : n ≤ 105) {t V i j : Nat} (hV : n + 10 ≤ V) (ht : V + 19 ≤ t + 1) (hj : 1 ≤ j) (h : j + i ≤ nx N (t - i)) (hi : i < t) : V ≤ t - i := by
  rcases Nat.lt_or_ge (t - i) V with l | l
  · exfalso
    rcases Nat.lt_or_ge (t - i) 10 with q | q
    · have h1 : nx N (t - i) ≤ n := S.le_n (t - i - 1) 1 (Nat.le_refl _)
      omega
    · have := S.small hn q
      omega
  · exact l
/-- not below k - 1 -/
theorem Sys.bot (S : Sys N n) (hn : n ≤ 105) {k c : Nat} (hk : 2 ≤ k) (hk2 : k ≤ 14) (h1 : (k - 1) * k < 2 * n) (h2 : 2 * n ≤ k * (k + 1)) (hc : n + 30 + 19 * (k - 1) ≤ c) : k - 1 ≤ nx N c := by
  rcases Nat.lt_or_ge (nx N c) (k - 1) with l | l
  · exfalso
    have hi : ∀ l', 1 ≤ l' → l' ≤ k - 1 → nx N (c + l') ≤ k - 1 := fun l' a1 a2 => by
      have := S.laps hn l' (c + l') a1 (by omega)
      rw [Nat.add_sub_cancel] at this
      omega
    have bd : ∀ j, 1 ≤ j → N (c + (k - 1)) j ≤ k - j := fun j j1 => by
      rw [S.form _ j j1, S.none 0 (by omega), Nat.zero_add]
      have e : cn (fun _ => true) (k - j) = k - j := cn_all fun _ _ => rfl
      rw [← e]
      refine cn_sub fun i hi' hp => ⟨?_, rfl⟩
      have hp := of_decide_eq_true hp
      have hg := S.gone hn (V := n + 11 + 19 * (k - 1)) (by omega) (by omega) j1 hp hi'
      have ht := S.top hn (by omega) hk2 h2 hg
      rcases Nat.lt_or_ge i (k - 1) with q | q
      · have := hi (k - 1 - i) (by omega) (by omega)
        rw [show c + (k - 1) - i = c + (k - 1 - i) by omega] at hp
        omega
      · rcases Nat.lt_or_ge (k - 1) i with q2 | q2
        · omega
        · rw [show c + (k - 1) - i = c by omega] at hp
          omega
    have a1 := S.all (c + (k - 1)) (n + k) (by omega)
    have a2 : su (N (c + (k - 1))) (n + k) ≤ su (fun j => k - j) (n + k) := su_mono fun j j1 _ => bd j j1
    have a3 : su (fun j => k - j) (n + k) = su (fun j => k - j) (k - 1) := su_stop (by omega) fun j hj => by omega
    have a4 := tri_su ⟨k - 1, by omega⟩
    have a5 : 2 * su (fun j => k - 1 + 1 - j) (k - 1) = (k - 1) * (k - 1 + 1) := a4
    rw [show k - 1 + 1 = k by omega] at a5
    omega
  · exact l
/-- round -/
theorem Sys.round (S : Sys N n) (hn : n ≤ 105) {k t : Nat} (hk : 1 ≤ k) (hk2 : k ≤ 14) (h1 : (k - 1) * k < 2 * n) (h2 : 2 * n ≤ k * (k + 1)) (ht : n + 49 + 19 * (k - 1) ≤ t) {j : Nat} (hj : 1 ≤ j) : k - j ≤ N t j ∧ N t j ≤ k + 1 - j := by
  rw [S.form t j hj, S.none 0 (by omega), Nat.zero_add]
  constructor
  · have e : cn (fun _ => true) (k - j) = k - j := cn_all fun _ _ => rfl
    rw [← e]
    refine cn_sub fun i hi _ => ⟨by omega, decide_eq_true ?_⟩
    have := S.bot hn (k := k) (c := t - i) (by omega) hk2 h1 h2 (by omega)
    omega
  · have e : cn (fun _ => true) (k + 1 - j) = k + 1 - j := cn_all fun _ _ => rfl
    rw [← e]
    refine cn_sub fun i hi hp => ⟨?_, rfl⟩
    have hp := of_decide_eq_true hp
    have hg := S.gone hn (V := n + 11 + 19 * (k - 1)) (by omega) (by omega) hj hp hi
    have := S.top hn hk hk2 h2 hg
    omega
end

def cnt (l : List Int) (j : Nat) : Nat := l.countP fun z => decide ((j : Int) ≤ z)
theorem su_add (f g : Nat → Nat) : ∀ m, su (fun j => f j + g j) m = su f m + su g m
  | 0 => rfl
  | m + 1 => by
    have ih := su_add f g m
    show su (fun j => f j + g j) m + (f (m + 1) + g (m + 1)) = (su f m + f (m + 1)) + (su g m + g (m + 1))
    omega
theorem su_ind (x : Nat) : ∀ m, su (fun j => if j ≤ x then 1 else 0) m = min m x
  | 0 => by
    show 0 = min 0 x
    omega
  | m + 1 => by
    have ih := su_ind x m
    show su (fun j => if j ≤ x then 1 else 0) m + (if m + 1 ≤ x then 1 else 0) = min (m + 1) x
    rw [ih]
    split <;> omega
theorem cnt_cons (x : Int) (r : List Int) (hx : 0 ≤ x) : cnt (x :: r) = fun j => cnt r j + if j ≤ x.toNat then 1 else 0 := by
  funext j
  unfold cnt
  rw [List.countP_cons]
  by_cases c : (j : Int) ≤ x
  · rw [if_pos (decide_eq_true c), if_pos (by omega)]
  · rw [if_neg (fun h => c (of_decide_eq_true h)), if_neg (by omega)]
theorem su_cnt : ∀ {l : List Int}, (∀ x ∈ l, 0 ≤ x) → ∀ m, ((su (cnt l) m : Nat) : Int) ≤ l.sum ∧ (l.sum ≤ (m : Int) → ((su (cnt l) m : Nat) : Int) = l.sum)
  | [], _, m => by
    have e : su (cnt []) m = 0 := by
      have : su (cnt []) m = su (cnt []) 0 := su_stop (Nat.zero_le _) fun j _ => rfl
      exact this
    rw [e]
    exact ⟨Int.le_refl _, fun _ => rfl⟩
  | x :: r, h, m => by
    have hx := h x (List.mem_cons_self ..)
    have hr : ∀ z ∈ r, 0 ≤ z := fun z hz => h z (List.mem_cons_of_mem _ hz)
    obtain ⟨h1, h2⟩ := su_cnt hr m
    rw [cnt_cons x r hx, su_add, su_ind, List.sum_cons]
    have h3 : 0 ≤ r.sum := by
      have := (su_cnt hr 0).1
      exact this
    refine ⟨by omega, fun hm => ?_⟩
    have := h2 (by omega)
    omega
theorem cnt_perm {l m : List Int} (h : l.Perm m) (j : Nat) : cnt l j = cnt m j := h.countP_eq _
theorem cnt_down1 : ∀ (l : List Int) {j : Nat}, 1 ≤ j → cnt (down1 l) j = cnt l (j + 1)
  | [], _, _ => rfl
  | x :: r, j, hj => by
    have ih := cnt_down1 r hj
    unfold cnt at ih ⊢
    rw [down1_cons, List.countP_cons]
    split
    · rw [List.countP_cons, ih]
      by_cases c : (j : Int) ≤ x - 1
      · rw [if_pos (decide_eq_true c), if_pos (decide_eq_true (by omega))]
      · rw [if_neg (fun h => c (of_decide_eq_true h)), if_neg (fun h => c (by have := of_decide_eq_true h; omega))]
    · rw [ih, if_neg (fun h => by have := of_decide_eq_true h; omega)]
      rfl
theorem cnt_one {l : List Int} (h : ∀ x ∈ l, 1 ≤ x) : cnt l 1 = l.length := by
  unfold cnt
  exact List.countP_eq_length.mpr fun x hx => decide_eq_true (h x hx)
theorem cnt_turn {l : List Int} (h : ∀ x ∈ l, 1 ≤ x) {j : Nat} (hj : 1 ≤ j) : cnt (turn l) j = cnt l (j + 1) + if j ≤ cnt l 1 then 1 else 0 := by
  unfold turn
  rw [cnt_one h, cnt_perm (insD_perm _ _), ← cnt_down1 l hj, cnt_cons _ _ (by omega)]
  rfl
theorem cnt_anti (l : List Int) (j : Nat) : cnt l (j + 1) ≤ cnt l j := by
  unfold cnt
  refine List.countP_mono_left fun x _ h => ?_
  have := of_decide_eq_true h
  exact decide_eq_true (by omega)
theorem sys_of {n : Nat} {ns : List Int} (h : IsSet n ns) : Sys (fun t j => cnt (turnN t ns) j) n := by
  have hs : ∀ t, IsSet n (turnN t ns) := fun t => turnN_set h
  refine ⟨fun t j hj => ?_, fun t j => cnt_anti _ j, fun t m => ?_, fun t m hm => ?_⟩
  · have := cnt_turn (hs t).1.pos hj
    show cnt (turnN (t + 1) ns) j = _
    rw [turnN_succ]
    exact this
  · have := (su_cnt (l := turnN t ns) (fun x hx => by have := (hs t).1.pos x hx; omega) m).1
    rw [(hs t).2] at this
    exact Int.ofNat_le.mp this
  · have := (su_cnt (l := turnN t ns) (fun x hx => by have := (hs t).1.pos x hx; omega) m).2
    rw [(hs t).2] at this
    exact Int.ofNat_inj.mp (this (by omega))
/-- of a falling list: the i-th is at least j just where more than i are -/
theorem cnt_falls : ∀ {l : List Int}, Falls l → ∀ (i j : Nat), 1 ≤ j → ((j : Int) ≤ l.getD i 0 ↔ i < cnt l j)
  | [], _, i, j, hj => by
    constructor
    · intro h
      have : (j : Int) ≤ 0 := h
      omega
    · intro h
      have : i < 0 := h
      omega
  | x :: r, hf, i, j, hj => by
    obtain ⟨f1, f2⟩ := List.pairwise_cons.mp hf
    have hc : cnt (x :: r) j = cnt r j + if (j : Int) ≤ x then 1 else 0 := by
      unfold cnt
      rw [List.countP_cons]
      by_cases c : (j : Int) ≤ x
      · rw [if_pos (decide_eq_true c), if_pos c]
      · rw [if_neg (fun h => c (of_decide_eq_true h)), if_neg c]
    rw [hc]
    have low : ¬ (j : Int) ≤ x → cnt r j = 0 := fun c => by
      unfold cnt
      refine List.countP_eq_zero.mpr fun z hz h => ?_
      have := f1 z hz
      have := of_decide_eq_true h
      omega
    cases i with
    | zero =>
      show (j : Int) ≤ x ↔ _
      by_cases c : (j : Int) ≤ x
      · rw [if_pos c]
        exact ⟨fun _ => by omega, fun _ => c⟩
      · rw [if_neg c, low c]
        exact ⟨fun h => absurd h c, fun h => by omega⟩
    | succ i =>
      have ih := cnt_falls f2 i j hj
      show (j : Int) ≤ r.getD i 0 ↔ _
      rw [ih]
      by_cases c : (j : Int) ≤ x
      · rw [if_pos c]
        omega
      · rw [if_neg c, low c]
        omega
/-- behind so many turns it is round -/
theorem round_by {n : Nat} {ns : List Int} (h : IsSet n ns) (h1 : 1 ≤ n) (h2 : n ≤ 100) {t : Nat} (ht : n + 49 + 19 * (stair n - 1) ≤ t) : marksBy (turnN t ns) ≠ [] := by
  have S := sys_of h
  have hs : IsSet n (turnN t ns) := turnN_set h
  obtain ⟨a, b, c⟩ := stair_spec h1
  have hst := stair_le h1 (b := 14) (by omega) (by omega)
  have R := fun j hj => S.round (by omega) (k := stair n) (t := t) a hst b c ht (j := j) hj
  have hsum : (turnN t ns).sum.toNat = n := by rw [hs.2, Int.toNat_natCast]
  have hlen : (turnN t ns).length = cnt (turnN t ns) 1 := (cnt_one hs.1.pos).symm
  have r1 := (R 1 (Nat.le_refl _)).2
  unfold marksBy
  rw [hsum]
  generalize stair n = k at *
  generalize turnN t ns = l at *
  rw [if_neg (by omega), if_pos]
  · intro e
    have := congrArg List.length e
    unfold marksAt at this
    rw [List.length_map, List.length_range, List.length_nil] at this
    omega
  · rw [isBits_iff]
    intro m hm
    unfold marksAt at hm
    obtain ⟨i, hi, rfl⟩ := List.mem_map.mp hm
    have hi := List.mem_range.mp hi
    have up : ¬ ((k - i + 1 : Nat) : Int) ≤ l.getD i 0 := fun h => by
      have := (cnt_falls hs.1.falls i (k - i + 1) (by omega)).mp h
      have := (R (k - i + 1) (by omega)).2
      omega
    have lo : ((k - 1 - i : Nat) : Int) ≤ l.getD i 0 := by
      rcases Nat.eq_zero_or_pos (k - 1 - i) with e | e
      · rw [e, List.getD_eq_getElem?_getD]
        cases hq : l[i]? with
        | none => exact Int.le_refl _
        | some z =>
          have := hs.1.pos z (List.mem_of_getElem? hq)
          show (0 : Int) ≤ z
          omega
      · refine (cnt_falls hs.1.falls i (k - 1 - i) e).mpr ?_
        have := (R (k - 1 - i) e).1
        omega
    omega

theorem marksAt_lenW (S : Nat) (ns : List Int) : (marksAt S ns).length = S := by
  unfold marksAt
  rw [List.length_map, List.length_range]
theorem marksAt_getW {S : Nat} {ns : List Int} {k : Nat} (h : k < S) : (marksAt S ns)[k]? = some (ns.getD k 0 - ((S : Int) - 1 - (k : Int))) := by
  unfold marksAt
  rw [List.getElem?_map, List.getElem?_range h] <;> rfl
theorem filter_pad {x : List Int} (h : ∀ z ∈ x, 1 ≤ z) (m : Nat) : (x ++ List.replicate m 0).filter (fun z => decide (z > 0)) = x := by
  rw [List.filter_append, List.filter_eq_self.mpr fun z hz => decide_eq_true (by have := h z hz; omega), List.filter_eq_nil_iff.mpr fun z hz => by
    rw [List.eq_of_mem_replicate hz]
    decide, List.append_nil]
theorem round_inv {n : Nat} {x : List Int} (h : IsSet n x) (h1 : 1 ≤ n) (hm : marksBy x ≠ []) : Bits (marksBy x) ∧ ofMarks (marksBy x) = x ∧ 1 ≤ (marksBy x).sum ∧ (marksBy x).length = stair n := by
  have hsum : x.sum.toNat = n := by rw [h.2, Int.toNat_natCast]
  obtain ⟨r1, r2, r3⟩ := rest_spec h1
  unfold marksBy at hm ⊢
  rw [hsum] at hm ⊢
  generalize hS : stair n = S at *
  by_cases c1 : S < x.length
  · rw [if_pos c1] at hm
    exact absurd rfl hm
  · rw [if_neg c1] at hm ⊢
    by_cases c2 : isBits (marksAt S x) = true
    · rw [if_pos c2]
      have hb := isBits_iff.mp c2
      have hl := marksAt_lenW S x
      have e : mk (marksAt S x) = x ++ List.replicate (S - x.length) 0 := by
        refine List.ext_getElem? fun i => ?_
        rcases Nat.lt_or_ge i S with l | l
        · rw [mk_get (marksAt_getW l), hl]
          rcases Nat.lt_or_ge i x.length with q | q
          · rw [List.getElem?_append_left q, List.getElem?_eq_getElem q, List.getD_eq_getElem?_getD, List.getElem?_eq_getElem q]
            congr 1
            show (S : Int) - 1 - i + (x[i] - ((S : Int) - 1 - i)) = x[i]
            omega
          · rw [List.getElem?_append_right q, List.getElem?_replicate, if_pos (by omega), List.getD_eq_getElem?_getD, List.getElem?_eq_none q]
            congr 1
            show (S : Int) - 1 - i + (0 - ((S : Int) - 1 - i)) = 0
            omega
        · rw [List.getElem?_eq_none (by rw [mk_length, hl]; exact l), List.getElem?_eq_none (by rw [List.length_append, List.length_replicate]; omega)]
      have eo : ofMarks (marksAt S x) = x := by
        unfold ofMarks
        rw [e]
        exact filter_pad h.1.pos _
      refine ⟨hb, eo, ?_, hl⟩
      have hs := ofMarks_sum hb
      rw [eo, h.2, hl] at hs
      omega
    · rw [if_neg c2] at hm
      exact absurd rfl hm
/-- a round setting's ring -/
theorem round_ring {n : Nat} {x : List Int} (h : IsSet n x) (h1 : 1 ≤ n) (h2 : n ≤ 100) (hm : marksBy x ≠ []) : (∃ d, d ≤ 14 ∧ Ring x d) ∧ ∀ i, marksBy (turnN i x) ≠ [] := by
  obtain ⟨b, e, s, l⟩ := round_inv h h1 hm
  have hst := stair_le h1 (b := 14) (by omega) (by omega)
  generalize marksBy x = ms at *
  subst e
  obtain ⟨d, hd, hr⟩ := ofMarks_ring b s
  refine ⟨⟨d, by omega, hr⟩, fun i => ?_⟩
  obtain ⟨q1, q2, q3, q4⟩ := rotN_facts b s i
  rw [q4, marksBy_of q1 (by omega)]
  intro e
  rw [e] at q2
  rw [← q2] at s
  exact absurd s (by decide)
theorem way_ex {n : Nat} {ns : List Int} (h : IsSet n ns) (h1 : 1 ≤ n) (h2 : n ≤ 100) : ∃ w, w ≤ 396 ∧ (∀ j, j < w → marksBy (turnN j ns) = []) ∧ marksBy (turnN w ns) ≠ [] := by
  have hst := stair_le h1 (b := 14) (by omega) (by omega)
  have hr := round_by h h1 h2 (t := 396) (by omega)
  obtain ⟨w, a, b, c⟩ := least_of (p := fun w => marksBy (turnN w ns) ≠ []) 396 hr
  exact ⟨w, a, fun j hj => Classical.byContradiction fun e => c j hj e, b⟩

/-! ### lists of ints compared -/
theorem dpAll_ints {K : PySem.W.Frag} {H : Hp} : ∀ ns : List Int, DpAll K H (ns.map V.int) (ns.map PyData.int)
  | [] => .nil
  | n :: r => .cons (.int n) (dpAll_ints r)
theorem dp_ints {K : PySem.W.Frag} {H : Hp} {a : Addr} {ns : List Int} (h : SqL K H a (ns.map V.int)) : Dp K H (.ref a) (.list (ns.map PyData.int)) := .lst h (dpAll_ints ns)
theorem sh_all_ints : ∀ ns : List Int, PyData.canLayAll0 (ns.map PyData.int) = true ∧ PyData.depthAll (ns.map PyData.int) = 0
  | [] => ⟨rfl, rfl⟩
  | n :: r => by
    obtain ⟨h1, h2⟩ := sh_all_ints r
    refine ⟨?_, ?_⟩
    · rw [List.map_cons, PyData.canLayAll0, h1] <;> rfl
    · rw [List.map_cons, PyData.depthAll, h2] <;> rfl
theorem sh_ints (ns : List Int) : SeqAt.shaped (.list (ns.map PyData.int)) = true := by
  obtain ⟨h1, h2⟩ := sh_all_ints ns
  unfold SeqAt.shaped
  rw [PyData.canLay0, PyData.depth, h1, h2] <;> rfl
theorem eqv_all_ints : ∀ ns ms : List Int, PyData.eqvAll (ns.map PyData.int) (ms.map PyData.int) = decide (ns = ms)
  | [], [] => by rw [List.map_nil, PyData.eqvAll] <;> rfl
  | [], m :: ms => by rw [List.map_nil, List.map_cons, PyData.eqvAll] <;> simp
  | n :: ns, [] => by rw [List.map_nil, List.map_cons, PyData.eqvAll] <;> simp
  | n :: ns, m :: ms => by
    rw [List.map_cons, List.map_cons, PyData.eqvAll, eqv_all_ints ns ms, PyData.eqv]
    by_cases e : n = m
    · subst e
      simp
    · simp [e]
theorem eqv_ints (ns ms : List Int) : PyData.eqv (.list (ns.map PyData.int)) (.list (ms.map PyData.int)) = decide (ns = ms) := by
  rw [PyData.eqv]
  exact eqv_all_ints ns ms
/-! ### a list that is looked at place by place -/
def Adj (ns : List Int) (i : Nat) : Prop := ∀ j, j < i → ∀ x, ns[j]? = some x → 1 ≤ x ∧ ∀ y, 0 < j → ns[j - 1]? = some y → x ≤ y
theorem falls_of_adj : ∀ {ns : List Int}, (∀ j x y, ns[j + 1]? = some x → ns[j]? = some y → x ≤ y) → Falls ns
  | [], _ => List.Pairwise.nil
  | [_], _ => List.pairwise_singleton _ _
  | a :: b :: r, h => by
    have ih : Falls (b :: r) := falls_of_adj fun j x y hx hy => h (j + 1) x y hx hy
    have hab : b ≤ a := h 0 b a rfl rfl
    refine List.pairwise_cons.mpr ⟨fun z hz => ?_, ih⟩
    rcases List.mem_cons.mp hz with rfl | hz
    · exact hab
    · have := (List.pairwise_cons.mp ih).1 z hz
      show z ≤ a
      omega
theorem good_adj {ns : List Int} : Good ns ↔ ns ≠ [] ∧ Adj ns ns.length := by
  constructor
  · intro h
    refine ⟨h.ne, fun j hj x hx => ⟨h.pos x (List.mem_of_getElem? hx), fun y h0 hy => ?_⟩⟩
    obtain ⟨i, rfl⟩ : ∃ i, j = i + 1 := ⟨j - 1, by omega⟩
    obtain ⟨a1, a2⟩ := List.getElem?_eq_some_iff.mp hx
    obtain ⟨b1, b2⟩ := List.getElem?_eq_some_iff.mp hy
    have := List.pairwise_iff_getElem.mp h.falls i (i + 1) (by omega) a1 (by omega)
    rw [← a2, ← b2]
    exact this
  · rintro ⟨h0, h⟩
    refine ⟨fun x hx => ?_, falls_of_adj fun j x y hx hy => ?_, h0⟩
    · obtain ⟨j, hj⟩ := List.getElem?_of_mem hx
      exact (h j (List.getElem?_eq_some_iff.mp hj).1 x hj).1
    · exact (h (j + 1) (List.getElem?_eq_some_iff.mp hx).1 x hx).2 y (by omega) hy
theorem insD_at {x : Int} : ∀ {l : List Int} {j : Nat}, j ≤ l.length → (∀ i y, i < j → l[i]? = some y → y > x) → (∀ y, l[j]? = some y → ¬ y > x) → insD x l = l.take j ++ [x] ++ l.drop j
  | [], 0, _, _, _ => rfl
  | [], j + 1, h, _, _ => by simp at h
  | a :: r, 0, _, _, h => by
    unfold insD
    rw [if_neg (h a rfl)] <;> rfl
  | a :: r, j + 1, hj, h1, h2 => by
    unfold insD
    rw [if_pos (h1 0 a (by omega) rfl), insD_at (l := r) (j := j) (by simpa using hj) (fun i y hi hy => h1 (i + 1) y (by omega) hy) h2] <;> rfl
theorem op_eqDK {X : Cx} (K : PySem.W.Frag) (hu : X.A.units + 64 < cLine) (h : X.K = K := by rfl) : OpR X (compareOp .Eq) (rEqD K) := by
  subst h
  exact op_eqD hu

/-! ### lists of lists -/
def LLs (H : Hp) : List Addr → List (List Int) → Prop
  | [], [] => True
  | a :: as, n :: ns => IL H a n ∧ LLs H as ns
  | _, _ => False
theorem LLs.same {H H' : Hp} (e : Same H H') : ∀ {as : List Addr} {ns : List (List Int)}, LLs H as ns → LLs H' as ns
  | [], [], _ => trivial
  | _ :: _, _ :: _, h => ⟨e _ _ h.1, h.2.same e⟩
  | [], _ :: _, h => h.elim
  | _ :: _, [], h => h.elim
theorem LLs.upd {H : Hp} {p : Addr} {o : HO} : ∀ {as : List Addr} {ns : List (List Int)}, (∀ a ∈ as, a ≠ p) → LLs H as ns → LLs (upd H p o) as ns
  | [], [], _, _ => trivial
  | a :: _, _ :: _, hn, h => ⟨by show L2.upd _ _ _ _ = _; rw [upd_ne (hn a (List.mem_cons_self ..))]; exact h.1, h.2.upd fun b hb => hn b (List.mem_cons_of_mem _ hb)⟩
  | [], _ :: _, _, h => h.elim
  | _ :: _, [], _, h => h.elim
theorem LLs.len {H : Hp} : ∀ {as : List Addr} {ns : List (List Int)}, LLs H as ns → as.length = ns.length
  | [], [], _ => rfl
  | _ :: _, _ :: _, h => congrArg (· + 1) h.2.len
  | [], _ :: _, h => h.elim
  | _ :: _, [], h => h.elim
theorem LLs.get {H : Hp} : ∀ {as : List Addr} {ns : List (List Int)} {i : Nat} {a : Addr}, LLs H as ns → as[i]? = some a → ∃ n, ns[i]? = some n ∧ IL H a n
  | [], [], _, _, _, h => by simp at h
  | b :: _, m :: _, 0, a, h, e => by
    have : b = a := Option.some.inj e
    subst this
    exact ⟨m, rfl, h.1⟩
  | _ :: _, _ :: _, i + 1, a, h, e => LLs.get (i := i) h.2 e
  | [], _ :: _, _, _, h, _ => h.elim
  | _ :: _, [], _, _, h, _ => h.elim
theorem LLs.app {H : Hp} : ∀ {as bs : List Addr} {ns ms : List (List Int)}, LLs H as ns → LLs H bs ms → LLs H (as ++ bs) (ns ++ ms)
  | [], _, [], _, _, g => g
  | _ :: _, _, _ :: _, _, h, g => ⟨h.1, h.2.app g⟩
  | [], _, _ :: _, _, h, _ => h.elim
  | _ :: _, _, [], _, h, _ => h.elim
theorem LLs.in_ {H : Hp} : ∀ {as : List Addr} {ns : List (List Int)} {a : Addr}, LLs H as ns → a ∈ as → ∃ n, n ∈ ns ∧ IL H a n := fun h ha => by
  obtain ⟨i, hi⟩ := List.getElem?_of_mem ha
  obtain ⟨n, e, q⟩ := h.get hi
  exact ⟨n, List.mem_of_getElem? e, q⟩
/-- a list of lists -/
def LL (H : Hp) (a : Addr) (as : List Addr) (ns : List (List Int)) : Prop := H a = some (.lst (as.map V.ref)) ∧ LLs H as ns
/-- a new list of new lists -/
abbrev NLL (Q : VK) (H : Hp) (ns : List (List Int)) : Prop := ∀ (H' : Hp) (p : Addr) (as : List Addr), Same H H' → H p = none → (∀ a ∈ as, H a = none) → LL H' p as ns → Q (.ref p) H'
theorem get_ref {as : List Addr} {i : Nat} {x : V} (h : (as.map V.ref)[i]? = some x) : ∃ z, as[i]? = some z ∧ x = .ref z := by
  rw [List.getElem?_map] at h
  cases e : as[i]? with
  | none => rw [e] at h; cases h
  | some z => rw [e] at h; exact ⟨z, rfl, (Option.some.inj h).symm⟩
theorem ref_get {as : List Addr} {i : Nat} {z : Addr} (h : as[i]? = some z) : (as.map V.ref)[i]? = some (.ref z) := by
  rw [List.getElem?_map, h] <;> rfl
theorem rlen {as : List Addr} : (as.map V.ref).length = as.length := List.length_map _
theorem two_pow_small {c : Nat} (h : c ≤ 20) : 2 ^ c ≤ 1048576 := Nat.pow_le_pow_right (by decide) h
theorem smallM {n : Nat} (h : n ≤ 1048576) : n < sizeLine := Nat.lt_of_le_of_lt h (by decide)

/-! ### lists of lists compared -/
def toD (n : List Int) : PyData := .list (n.map PyData.int)
theorem dpAll_lls {K : PySem.W.Frag} {H : Hp} : ∀ {as : List Addr} {nss : List (List Int)}, LLs H as nss → DpAll K H (as.map V.ref) (nss.map toD)
  | [], [], _ => .nil
  | _ :: _, _ :: _, h => .cons (dp_ints (sq h.1)) (dpAll_lls h.2)
  | [], _ :: _, h => h.elim
  | _ :: _, [], h => h.elim
theorem dp_ll {K : PySem.W.Frag} {H : Hp} {a : Addr} {as : List Addr} {nss : List (List Int)} (h : LL H a as nss) : Dp K H (.ref a) (.list (nss.map toD)) := .lst (sq h.1) (dpAll_lls h.2)
theorem sh_all_lls : ∀ nss : List (List Int), PyData.canLayAll0 (nss.map toD) = true ∧ PyData.depthAll (nss.map toD) ≤ 1
  | [] => ⟨rfl, Nat.zero_le _⟩
  | n :: r => by
    obtain ⟨h1, h2⟩ := sh_all_lls r
    obtain ⟨g1, g2⟩ := sh_all_ints n
    refine ⟨?_, ?_⟩
    · rw [List.map_cons, PyData.canLayAll0, h1]
      unfold toD
      rw [PyData.canLay0, g1] <;> rfl
    · rw [List.map_cons, PyData.depthAll]
      have : PyData.depth (toD n) = 1 := by
        unfold toD
        rw [PyData.depth, g2]
      omega
theorem sh_lls (nss : List (List Int)) : SeqAt.shaped (.list (nss.map toD)) = true := by
  obtain ⟨h1, h2⟩ := sh_all_lls nss
  unfold SeqAt.shaped
  rw [PyData.canLay0, PyData.depth, h1]
  exact decide_eq_true (by omega)
theorem any_lls (n : List Int) : ∀ nss : List (List Int), ((nss.map toD).any fun z => PyData.eqv z (toD n)) = decide (n ∈ nss)
  | [] => rfl
  | m :: r => by
    rw [List.map_cons, List.any_cons, any_lls n r]
    unfold toD
    rw [eqv_ints]
    by_cases e : m = n
    · subst e
      simp
    · by_cases e2 : n ∈ r
      · simp [e, e2]
      · have e3 : ¬ n = m := fun h => e h.symm
        simp [e, e2, e3]
theorem eqv_all_lls : ∀ ns ms : List (List Int), PyData.eqvAll (ns.map toD) (ms.map toD) = decide (ns = ms)
  | [], [] => by rw [List.map_nil, PyData.eqvAll] <;> rfl
  | [], m :: ms => by rw [List.map_nil, List.map_cons, PyData.eqvAll] <;> simp
  | n :: ns, [] => by rw [List.map_nil, List.map_cons, PyData.eqvAll] <;> simp
  | n :: ns, m :: ms => by
    rw [List.map_cons, List.map_cons, PyData.eqvAll, eqv_all_lls ns ms]
    unfold toD
    rw [eqv_ints]
    by_cases e : n = m
    · subst e
      simp
    · simp [e]
theorem eqv_lls (ns ms : List (List Int)) : PyData.eqv (.list (ns.map toD)) (.list (ms.map toD)) = decide (ns = ms) := by
  rw [PyData.eqv]
  exact eqv_all_lls ns ms
theorem LLs.ne {H : Hp} {p : Addr} (h : H p = none) {as : List Addr} {nss : List (List Int)} (q : LLs H as nss) : ∀ a ∈ as, a ≠ p := fun a ha => by
  obtain ⟨m, _, em⟩ := q.in_ ha
  exact ne_of_none em h
/-- a list of refs that is not empty is no list of ints -/
theorem ref_ne_int {H : Hp} {f a : Addr} {fs : List Addr} {x : List Int} (hf : H f = some (.lst (fs.map V.ref))) (ha : H a = some (.lst (x.map V.int))) (h : 0 < fs.length) : f ≠ a := fun e => by
  rw [e, ha] at hf
  have h2 := Option.some.inj hf
  have h3 : x.map V.int = fs.map V.ref := by
    injection h2
  have g0 : fs[0]? = some (fs[0]'h) := List.getElem?_eq_getElem h
  have h4 := congrArg (fun l => l[0]?) h3
  simp only [List.getElem?_map, g0, Option.map_some] at h4
  cases hx0 : x[0]? with
  | none =>
    rw [hx0] at h4
    cases h4
  | some z =>
    rw [hx0] at h4
    cases h4
theorem cut_butlast (xs : List V) : cutV xs none (some (-1)) = xs.dropLast := by
  unfold cutV
  rw [HT.sIx_none, show HT.sIx xs.length xs.length (some (-1)) = xs.length - 1 by
    show (if (-1 : Int) < 0 then ((-1 : Int) + (xs.length : Int)).toNat else min (-1 : Int).toNat xs.length) = xs.length - 1
    rw [if_pos (by decide)]
    omega, Nat.sub_zero, List.drop_zero, List.dropLast_eq_take]
/-- the script and a new object -/
theorem SL.apart {K : PySem.W.Frag} {H : Hp} {a D : Addr} {ns : List Int} (h : SL K H a ns) (n : H D = none) : a ≠ D ∨ ∀ H, SL K H a ns := by
  rcases h with (e | ⟨o, e⟩) | e
  · exact .inl (ne_of_none e n)
  · exact .inl (ne_of_none e n)
  · exact .inr fun _ => .inr e
theorem SL.upd {K : PySem.W.Frag} {H : Hp} {a D : Addr} {ns : List Int} {o : HO} (h : SL K H a ns) (d : a ≠ D ∨ ∀ H, SL K H a ns) : SL K (upd H D o) a ns := by
  rcases d with d | d
  · rcases h with (e | ⟨o', e⟩) | e
    · exact .inl (.inl (by rw [upd_ne d]; exact e))
    · exact .inl (.inr ⟨o', by rw [upd_ne d]; exact e⟩)
    · exact .inr e
  · exact d _

/-! ### the first setting that comes again; dicts with settings for keys -/
structure Meet (ns : List Int) (i p : Nat) : Prop where
  pos : 1 ≤ p
  back : turnN (i + p) ns = turnN i ns
  inj : ∀ a b, a < b → b < i + p → turnN a ns ≠ turnN b ns
theorem meet_ex {n : Nat} {ns : List Int} (h : IsSet n ns) (h1 : 1 ≤ n) (h2 : n ≤ 100) : ∃ i p, i + p ≤ 410 ∧ Meet ns i p := by
  obtain ⟨w, hw, _, ht⟩ := way_ex h h1 h2
  obtain ⟨⟨d, hd, hring⟩, _⟩ := round_ring (turnN_set (j := w) h) h1 h2 ht
  have e : turnN (w + d) ns = turnN w ns := by
    rw [Nat.add_comm, turnN_add]
    exact hring.back
  have hp := hring.pos
  obtain ⟨L, hL, ⟨i, hi, ei⟩, hb⟩ := least_of (p := fun L => ∃ i, i < L ∧ turnN L ns = turnN i ns) (w + d) ⟨w, by omega, e⟩
  refine ⟨i, L - i, by omega, by omega, by rw [show i + (L - i) = L by omega]; exact ei, fun a b hab hbL e => ?_⟩
  exact hb b (by omega) ⟨a, hab, e.symm⟩
theorem turnN_per {ns : List Int} {i p : Nat} (h : turnN (i + p) ns = turnN i ns) : ∀ m q, turnN (i + p * m + q) ns = turnN (i + q) ns
  | 0, q => rfl
  | m + 1, q => by
    have e : i + p * (m + 1) + q = (p * m + q) + (i + p) := by
      rw [Nat.mul_add, Nat.mul_one]
      omega
    rw [e, turnN_add, h, ← turnN_add, show p * m + q + i = i + p * m + q by omega]
    exact turnN_per h m q
theorem Meet.at {ns : List Int} {i p : Nat} (h : Meet ns i p) {t : Nat} (ht : i ≤ t) : turnN t ns = turnN (i + (t - i) % p) ns := by
  have := turnN_per h.back ((t - i) / p) ((t - i) % p)
  have e := Nat.div_add_mod (t - i) p
  rw [show i + p * ((t - i) / p) + (t - i) % p = t by omega] at this
  exact this
def kT (x : List Int) : List Key := x.map Sum.inl
theorem kT_map (x : List Int) : (kT x).map kV = x.map V.int := by
  unfold kT
  rw [List.map_map]
  rfl
theorem kT_inj : ∀ {x y : List Int}, kT x = kT y → x = y
  | [], [], _ => rfl
  | [], _ :: _, h => by cases h
  | _ :: _, [], h => by cases h
  | a :: x, b :: y, h => by
    have h : (Sum.inl a : Key) :: kT x = Sum.inl b :: kT y := h
    injection h with h1 h2
    injection h1 with h1
    rw [h1, kT_inj h2]
theorem valV_no {kvs : List (List Key × V)} {k : List Key} (h : ∀ kv ∈ kvs, kv.1 ≠ k) : valV kvs k = none := by
  unfold valV
  rw [List.find?_eq_none.mpr fun kv hk c => h kv hk (of_decide_eq_true c)]
  rfl
theorem valV_yes {kvs : List (List Key × V)} {k : List Key} {v : V} (h : (k, v) ∈ kvs) (hu : ∀ kv ∈ kvs, kv.1 = k → kv.2 = v) : valV kvs k = some v := by
  unfold valV
  cases e : kvs.find? fun kv => decide (kv.1 = k) with
  | none => exact absurd (decide_eq_true rfl) (List.find?_eq_none.mp e _ h)
  | some kv => exact congrArg some (hu kv (List.mem_of_find?_eq_some e) (of_decide_eq_true (List.find?_some (p := fun kv : List Key × V => decide (kv.1 = k)) e)))
/-- what was seen on the way -/
def seenL (j : Nat) (ns : List Int) : List (List Key × V) := (List.range j).map fun i => (kT (turnN i ns), V.int i)
theorem seenL_succ (j : Nat) (ns : List Int) : seenL (j + 1) ns = seenL j ns ++ [(kT (turnN j ns), V.int j)] := by
  unfold seenL
  rw [List.range_succ, List.map_append] <;> rfl
theorem mem_seenL {j : Nat} {ns : List Int} {kv : List Key × V} : kv ∈ seenL j ns ↔ ∃ i, i < j ∧ (kT (turnN i ns), V.int i) = kv := by
  unfold seenL
  simp only [List.mem_map, List.mem_range]
theorem seenL_no {j : Nat} {ns x : List Int} (h : ∀ i, i < j → turnN i ns ≠ x) : valV (seenL j ns) (kT x) = none := valV_no fun kv hk e => by
  obtain ⟨i, hi, rfl⟩ := mem_seenL.mp hk
  exact h i hi (kT_inj e)
theorem seenL_yes {j i : Nat} {ns x : List Int} (hi : i < j) (e : turnN i ns = x) (hu : ∀ a b, a < b → b < j → turnN a ns ≠ turnN b ns) : valV (seenL j ns) (kT x) = some (.int i) := by
  subst e
  refine valV_yes (mem_seenL.mpr ⟨i, hi, rfl⟩) fun kv hk e => ?_
  obtain ⟨q, hq, rfl⟩ := mem_seenL.mp hk
  have e := kT_inj e
  rcases Nat.lt_trichotomy q i with l | l | l
  · exact absurd e (hu q i l hi)
  · rw [l]
  · exact absurd e.symm (hu i q l hq)
theorem seenL_len (j : Nat) (ns : List Int) : (seenL j ns).length = j := by
  unfold seenL
  rw [List.length_map, List.length_range]
theorem hu1 {A : Around} {k : Nat} (r : Room k A) : A.units + 1 < cLine := by
  have := r.un
  omega
theorem LLs.at {H : Hp} : ∀ {as : List Addr} {ns : List (List Int)} {i : Nat} {m : List Int}, LLs H as ns → ns[i]? = some m → ∃ a, as[i]? = some a ∧ IL H a m := fun {as ns i m} h e => by
  have hl := h.len
  have hi : i < as.length := by
    rw [hl]
    exact (List.getElem?_eq_some_iff.mp e).1
  have ha : as[i]? = some as[i] := List.getElem?_eq_getElem hi
  obtain ⟨m', em, q⟩ := h.get ha
  rw [e] at em
  obtain rfl := Option.some.inj em
  exact ⟨_, ha, q⟩
theorem ringL_get {d j : Nat} {x : List Int} (h : j < d) : (ringL d x)[j]? = some (turnN j x) := by
  unfold ringL
  rw [List.getElem?_map, List.getElem?_range h] <;> rfl

/-! ### all marks, all rings -/
def allM : Nat → Int → List (List Int)
  | 0, o => if o < 0 then [] else if o > 0 then [] else [[]]
  | m + 1, o => if o < 0 then [] else if o > ((m + 1 : Nat) : Int) then [] else (allM m (o - 1)).map (1 :: ·) ++ (allM m o).map (0 :: ·)
theorem allM_len : ∀ (m : Nat) (o : Int), (allM m o).length ≤ 2 ^ m
  | 0, o => by
    unfold allM
    split
    · exact Nat.zero_le _
    · split
      · exact Nat.zero_le _
      · exact Nat.le_refl _
  | m + 1, o => by
    have h1 := allM_len m (o - 1)
    have h2 := allM_len m o
    unfold allM
    split
    · exact Nat.zero_le _
    · split
      · exact Nat.zero_le _
      · rw [List.length_append, List.length_map, List.length_map, Nat.pow_succ]
        omega
theorem mem_allM : ∀ {m : Nat} {o : Int} {ms : List Int}, ms ∈ allM m o ↔ Bits ms ∧ ms.length = m ∧ ms.sum = o
  | 0, o, ms => by
    unfold allM
    constructor
    · intro h
      split at h
      · cases h
      · split at h
        · cases h
        · rename_i a b
          rw [List.mem_singleton.mp h]
          refine ⟨fun z hz => (by cases hz), rfl, ?_⟩
          show (0 : Int) = o
          omega
    · rintro ⟨_, h, h2⟩
      have e := List.eq_nil_of_length_eq_zero h
      subst e
      have h2 : (0 : Int) = o := h2
      rw [if_neg (by omega), if_neg (by omega)]
      exact List.mem_singleton.mpr rfl
  | m + 1, o, ms => by
    unfold allM
    constructor
    · intro h
      split at h
      · cases h
      · split at h
        · cases h
        · rcases List.mem_append.mp h with h | h
          · obtain ⟨r, hr, rfl⟩ := List.mem_map.mp h
            obtain ⟨h1, h2, h3⟩ := mem_allM.mp hr
            refine ⟨fun z hz => ?_, by rw [List.length_cons, h2], by rw [List.sum_cons, h3]; omega⟩
            rcases List.mem_cons.mp hz with rfl | hz
            · exact .inr rfl
            · exact h1 z hz
          · obtain ⟨r, hr, rfl⟩ := List.mem_map.mp h
            obtain ⟨h1, h2, h3⟩ := mem_allM.mp hr
            refine ⟨fun z hz => ?_, by rw [List.length_cons, h2], by rw [List.sum_cons, h3]; omega⟩
            rcases List.mem_cons.mp hz with rfl | hz
            · exact .inl rfl
            · exact h1 z hz
    · rintro ⟨h1, h2, h3⟩
      obtain ⟨b0, b1⟩ := bits_sum_range h1
      rw [if_neg (by omega), if_neg (by omega)]
      match ms, h2 with
      | z :: r, h2 =>
        have hr : Bits r := fun y hy => h1 y (List.mem_cons_of_mem _ hy)
        rw [List.sum_cons] at h3
        have hl : r.length = m := by simpa using h2
        rcases h1 z (List.mem_cons_self ..) with rfl | rfl
        · exact List.mem_append_right _ (List.mem_map.mpr ⟨r, mem_allM.mpr ⟨hr, hl, by omega⟩, rfl⟩)
        · exact List.mem_append_left _ (List.mem_map.mpr ⟨r, mem_allM.mpr ⟨hr, hl, by omega⟩, rfl⟩)
/-- the first turn back -/
def perUp : Nat → Nat → List Int → List Int → Nat
  | 0, d, _, _ => d
  | f + 1, d, y, x => if y = x then d else perUp f (d + 1) (turn y) x
theorem perUp_eq {x : List Int} {d : Nat} (h : Ring x d) : ∀ f j, 1 ≤ j → j ≤ d → d ≤ f + j → perUp f j (turnN j x) x = d
  | 0, j, _, h2, h3 => by
    show j = d
    omega
  | f + 1, j, h1, h2, h3 => by
    unfold perUp
    by_cases e : turnN j x = x
    · rw [if_pos e]
      rcases Nat.lt_or_ge j d with l | l
      · exact absurd e (h.first j (by omega) l)
      · omega
    · rw [if_neg e]
      have hj : j < d := by
        rcases Nat.lt_or_ge j d with l | l
        · exact l
        · obtain rfl : j = d := by omega
          exact absurd h.back e
      have := perUp_eq h f (j + 1) (by omega) (by omega) (by omega)
      rw [turnN_succ] at this
      exact this
def ringOf (x : List Int) : List (List Int) := ringL (perUp 14 1 (turn x) x) x
theorem ringOf_eq {x : List Int} {d : Nat} (h : Ring x d) (hd : d ≤ 14) : ringOf x = ringL d x := by
  have := perUp_eq h 14 1 (Nat.le_refl _) h.pos (by omega)
  unfold ringOf
  rw [show turn x = turnN 1 x from rfl, this]
def addRing (found : List (List (List Int))) (ms : List Int) : List (List (List Int)) := if ofMarks ms ∈ found.flatten then found else found ++ [ringOf (ofMarks ms)]
def ringsF (l : List (List Int)) : List (List (List Int)) := l.foldl addRing []
def rings (n : Nat) : List (List (List Int)) := ringsF (allM (stair n) (restOf n))
theorem ringsF_snoc (l : List (List Int)) (m : List Int) : ringsF (l ++ [m]) = addRing (ringsF l) m := by
  unfold ringsF
  rw [List.foldl_append] <;> rfl
theorem ringsF_len : ∀ l : List (List Int), ∀ i, (ringsF (l.take i)).length ≤ i
  | l, 0 => by
    rw [List.take_zero]
    exact Nat.le_refl _
  | l, i + 1 => by
    have ih := ringsF_len l i
    rw [List.take_add_one]
    cases l[i]? with
    | none =>
      rw [Option.toList_none, List.append_nil]
      omega
    | some m =>
      rw [Option.toList_some, ringsF_snoc]
      unfold addRing
      split
      · omega
      · rw [List.length_append, List.length_singleton]
        omega
/-- lists of lists of lists, the lists in them such as F says -/
def L3s (F : Addr → Prop) (H : Hp) : List Addr → List (List (List Int)) → Prop
  | [], [] => True
  | a :: as, n :: ns => (F a ∧ ∃ bs : List Addr, LL H a bs n ∧ ∀ b ∈ bs, F b) ∧ L3s F H as ns
  | _, _ => False
theorem L3s.same {F : Addr → Prop} {H H' : Hp} (e : Same H H') : ∀ {as : List Addr} {ns : List (List (List Int))}, L3s F H as ns → L3s F H' as ns
  | [], [], _ => trivial
  | _ :: _, _ :: _, ⟨⟨h1, bs, h2, h3⟩, h⟩ => ⟨⟨h1, bs, ⟨e _ _ h2.1, h2.2.same e⟩, h3⟩, L3s.same e h⟩
  | [], _ :: _, h => h.elim
  | _ :: _, [], h => h.elim
theorem L3s.upd {F : Addr → Prop} {H : Hp} {p : Addr} {o : HO} (n : ∀ a, F a → a ≠ p) : ∀ {as : List Addr} {ns : List (List (List Int))}, L3s F H as ns → L3s F (upd H p o) as ns
  | [], [], _ => trivial
  | _ :: _, _ :: _, ⟨⟨h1, bs, h2, h3⟩, h⟩ => ⟨⟨h1, bs, ⟨by rw [upd_ne (n _ h1)]; exact h2.1, h2.2.upd fun b hb => n b (h3 b hb)⟩, h3⟩, L3s.upd n h⟩
  | [], _ :: _, h => h.elim
  | _ :: _, [], h => h.elim
theorem L3s.mono {F G : Addr → Prop} {H : Hp} (e : ∀ a, F a → G a) : ∀ {as : List Addr} {ns : List (List (List Int))}, L3s F H as ns → L3s G H as ns
  | [], [], _ => trivial
  | _ :: _, _ :: _, ⟨⟨h1, bs, h2, h3⟩, h⟩ => ⟨⟨e _ h1, bs, h2, fun b hb => e b (h3 b hb)⟩, L3s.mono e h⟩
  | [], _ :: _, h => h.elim
  | _ :: _, [], h => h.elim
theorem L3s.len {F : Addr → Prop} {H : Hp} : ∀ {as : List Addr} {ns : List (List (List Int))}, L3s F H as ns → as.length = ns.length
  | [], [], _ => rfl
  | _ :: _, _ :: _, h => congrArg (· + 1) (L3s.len h.2)
  | [], _ :: _, h => h.elim
  | _ :: _, [], h => h.elim
theorem L3s.app {F : Addr → Prop} {H : Hp} : ∀ {as bs : List Addr} {ns ms : List (List (List Int))}, L3s F H as ns → L3s F H bs ms → L3s F H (as ++ bs) (ns ++ ms)
  | [], _, [], _, _, g => g
  | _ :: _, _, _ :: _, _, h, g => ⟨h.1, L3s.app h.2 g⟩
  | [], _, _ :: _, _, h, _ => h.elim
  | _ :: _, _, [], _, h, _ => h.elim
theorem L3s.get {F : Addr → Prop} {H : Hp} : ∀ {as : List Addr} {ns : List (List (List Int))} {i : Nat} {a : Addr}, L3s F H as ns → as[i]? = some a → ∃ n bs, ns[i]? = some n ∧ F a ∧ LL H a bs n ∧ ∀ b ∈ bs, F b
  | [], [], _, _, _, h => by simp at h
  | b :: _, m :: _, 0, a, ⟨⟨h1, bs, h2, h3⟩, h⟩, e => by
    have : b = a := Option.some.inj e
    subst this
    exact ⟨m, bs, rfl, h1, h2, h3⟩
  | _ :: _, _ :: _, i + 1, a, h, e => L3s.get (i := i) h.2 e
  | [], _ :: _, _, _, h, _ => h.elim
  | _ :: _, [], _, _, h, _ => h.elim
/-- a new list of new rings -/
abbrev NL3 (Q : VK) (H : Hp) (rs : List (List (List Int))) : Prop := ∀ (H' : Hp) (p : Addr) (as : List Addr), Same H H' → H p = none → H' p = some (.lst (as.map V.ref)) → L3s (fun b => H b = none ∧ b ≠ p) H' as rs → Q (.ref p) H'
/-! ### the rings as the law makes them -/
def turnsL (S : Nat) (ms : List Int) : List (List Int) := (List.range S).map fun k => ms.drop (S - k) ++ ms.take (S - k)
def addNew (r : List (List Int)) (one : List Int) : List (List Int) := if ofMarks one ∈ r then r else r ++ [ofMarks one]
def ringD (l : List (List Int)) : List (List Int) := l.foldl addNew []
theorem ringD_snoc (l : List (List Int)) (m : List Int) : ringD (l ++ [m]) = addNew (ringD l) m := by
  unfold ringD
  rw [List.foldl_append] <;> rfl
theorem ringD_len : ∀ l : List (List Int), ∀ i, (ringD (l.take i)).length ≤ i
  | l, 0 => by
    rw [List.take_zero]
    exact Nat.le_refl _
  | l, i + 1 => by
    have ih := ringD_len l i
    rw [List.take_add_one]
    cases l[i]? with
    | none =>
      rw [Option.toList_none, List.append_nil]
      omega
    | some m =>
      rw [Option.toList_some, ringD_snoc]
      unfold addNew
      split
      · omega
      · rw [List.length_append, List.length_singleton]
        omega
def addMax (S : Nat) (found : List (List (List Int))) (ms : List Int) : List (List (List Int)) := if ∀ y ∈ turnsL S ms, y ≤ ms then found ++ [ringD (turnsL S ms)] else found
def lawRings (S : Nat) (l : List (List Int)) : List (List (List Int)) := l.foldl (addMax S) []
theorem lawRings_snoc (S : Nat) (l : List (List Int)) (m : List Int) : lawRings S (l ++ [m]) = addMax S (lawRings S l) m := by
  unfold lawRings
  rw [List.foldl_append] <;> rfl
theorem lawRings_len (S : Nat) : ∀ l : List (List Int), ∀ i, (lawRings S (l.take i)).length ≤ i
  | l, 0 => by
    rw [List.take_zero]
    exact Nat.le_refl _
  | l, i + 1 => by
    have ih := lawRings_len S l i
    rw [List.take_add_one]
    cases l[i]? with
    | none =>
      rw [Option.toList_none, List.append_nil]
      omega
    | some m =>
      rw [Option.toList_some, lawRings_snoc]
      unfold addMax
      split
      · rw [List.length_append, List.length_singleton]
        omega
      · omega
theorem L3s.apart {F : Addr → Prop} {H : Hp} {p : Addr} (n : H p = none) : ∀ {as : List Addr} {ns : List (List (List Int))}, L3s F H as ns → L3s (fun b => F b ∧ b ≠ p) H as ns
  | [], [], _ => trivial
  | _ :: _, _ :: _, ⟨⟨h1, bs, h2, h3⟩, h⟩ => ⟨⟨⟨h1, ne_of_none h2.1 n⟩, bs, h2, fun b hb => ⟨h3 b hb, h2.2.ne n b hb⟩⟩, L3s.apart n h⟩
  | [], _ :: _, h => h.elim
  | _ :: _, [], h => h.elim

theorem rings36 : ∀ n : Fin 37, 1 ≤ n.1 → rings n.1 = lawRings (stair n.1) (allM (stair n.1) (restOf n.1)) ∧ (rings n.1).length = ringsN (stair n.1) (restOf n.1) ∧ rings n.1 ≠ [] ∧ (rings n.1).length ≤ 100 ∧ ∀ r ∈ rings n.1, r ≠ [] ∧ r.length ≤ 8 ∧ ∀ m ∈ r, m.length ≤ 8 := by decide +kernel

/-! ### max(a list of lists of ints) -/
def bigger (a y : List Int) : List Int := if a < y then y else a
theorem maxD_lists (x : List Int) : ∀ xs : List (List Int), PySem.W.maxD (toD x) (xs.map toD) = toD (xs.foldl bigger x) := by
  intro xs
  unfold PySem.W.maxD
  induction xs generalizing x with
  | nil => rfl
  | cons y r ih =>
    rw [List.map_cons, List.foldl_cons, List.foldl_cons, ← ih]
    congr 1
    have e : PySem.W.dataLt (toD x) (toD y) = decide (x < y) := by
      unfold toD
      rw [PySem.W.dataLt_list]
      exact PySem.W.dataLt_ints x y
    unfold bigger
    rw [e]
    by_cases c : x < y
    · rw [if_pos c, if_pos (decide_eq_true c)]
    · rw [if_neg c, if_neg (by rw [decide_eq_false c]; decide)]
theorem bigger_fold : ∀ (xs : List (List Int)) (x : List Int), x ≤ xs.foldl bigger x ∧ ∀ y ∈ xs, y ≤ xs.foldl bigger x
  | [], x => ⟨List.le_refl _, fun y hy => by cases hy⟩
  | y :: r, x => by
    obtain ⟨h1, h2⟩ := bigger_fold r (bigger x y)
    have hb : x ≤ bigger x y ∧ y ≤ bigger x y := by
      unfold bigger
      by_cases c : x < y
      · rw [if_pos c]
        exact ⟨List.not_lt.mp fun d => absurd (List.lt_trans c d) (List.lt_irrefl _), List.le_refl _⟩
      · rw [if_neg c]
        exact ⟨List.le_refl _, List.not_lt.mp c⟩
    rw [List.foldl_cons]
    refine ⟨List.le_trans hb.1 h1, fun z hz => ?_⟩
    rcases List.mem_cons.mp hz with rfl | hz
    · exact List.le_trans hb.2 h1
    · exact h2 z hz
def rMaxL : List V → Hp → VK → Prop := fun vs H Q => ∃ (p : Addr) (as : List Addr) (nss : List (List Int)), vs = [.ref p] ∧ LL H p as nss ∧ nss ≠ [] ∧ ∀ (i : Nat) (a : Addr) (m : List Int), as[i]? = some a → nss[i]? = some m → (∀ y ∈ nss, y ≤ m) → Q (.ref a) H
theorem ints_inj : ∀ {x y : List Int}, x.map PyData.int = y.map PyData.int → x = y
  | [], [], _ => rfl
  | [], _ :: _, h => by cases h
  | _ :: _, [], h => by cases h
  | a :: x, b :: y, h => by
    rw [List.map_cons, List.map_cons] at h
    injection h with h1 h2
    injection h1 with h1
    rw [h1, ints_inj h2]
theorem cr_maxL {X : Cx} (hc : X.calm = true) (hu : X.A.units + 65 < cLine) : CallR X (.builtin "max") rMaxL := by
  intro pins s σ H vs us Q I r h
  obtain ⟨p, as, nss, rfl, ⟨hp, hL⟩, hne, q⟩ := h
  obtain ⟨its, rv, hl, hz⟩ := I.list (sq hp)
  rw [Vals.ref1 r]
  obtain ⟨x, xs, rfl⟩ : ∃ x xs, nss = x :: xs := by
    cases nss with
    | nil => exact absurd rfl hne
    | cons x xs => exact ⟨x, xs, rfl⟩
  obtain ⟨bs, ra⟩ := Dp.readsAll I _ _ its (dpAll_lls hL) rv
  rw [List.map_cons] at ra
  have hd := (sh_all_lls (x :: xs)).2
  rw [List.map_cons] at hd
  refine PySem.W.max_list_data (I.ok.hd hc) hl.isList (by simpa using ra) ?_ (by omega) fun i v h' tk bs hi hr hk => ?_
  · rw [← List.map_cons]
    refine ⟨fun a ha b hb => ?_, fun a ha e => ?_⟩
    · obtain ⟨y, _, rfl⟩ := List.mem_map.mp ha
      obtain ⟨z, _, rfl⟩ := List.mem_map.mp hb
      unfold toD
      rw [PySem.W.alike]
      exact PySem.W.alike_ints _ _
    · obtain ⟨y, _, rfl⟩ := List.mem_map.mp ha
      cases e
  · rw [maxD_lists] at hr
    have hi : its[i]? = some v := by simpa using hi
    have hil : i < as.length := by
      have := (List.getElem?_eq_some_iff.mp hi).1
      rw [← rv.length, rlen] at this
      exact this
    have ga : as[i]? = some as[i] := List.getElem?_eq_getElem hil
    obtain ⟨m, gm, em⟩ := hL.get ga
    obtain ⟨u, gu, ru⟩ := rv.get (ref_get ga)
    rw [hi] at gu
    obtain rfl := Option.some.inj gu
    have I2 : Inv X pins σ H { s with heap := h', toks := tk } := I.kept hk
    obtain ⟨cs, rm⟩ := Dp.reads I2 _ (.ref as[i]) v (dp_ints (sq em)) ru
    have hu2 := SeqAt.Reads.unique _ _ _ _ _ (by rw [PyData.canLay0]; exact (sh_all_ints m).1) rm hr
    have em : m = xs.foldl bigger x := by
      unfold toD at hu2
      injection hu2 with hu2
      exact ints_inj hu2
    refine ⟨.ref as[i], H, I2, ru, q i _ m ga gm fun y hy => ?_⟩
    rw [em]
    rcases List.mem_cons.mp hy with rfl | hy
    · exact (bigger_fold xs y).1
    · exact (bigger_fold xs x).2 y hy

/-! ### the text -/
def top (i : Nat) : Stmt := PySem.Challenge.pw_pilewheel_k14_all_rings.main.body.getD i (.Pass ⟨0, 0, 0, 0⟩)
abbrev s_turned_by : Stmt := top 4
abbrev s_stair_of : Stmt := top 6
abbrev s_setting_by : Stmt := top 7
abbrev s_ring_by : Stmt := top 8
abbrev s_must_count : Stmt := top 10
abbrev s_chosen : Stmt := top 11
abbrev s_common : Stmt := top 12
abbrev s_rings_many : Stmt := top 13
abbrev s_all_marks : Stmt := top 14
abbrev s_rings_of : Stmt := top 15
abbrev s_law_cell : Stmt := top 17
abbrev s_law_whole : Stmt := top 18
abbrev s_law_ints : Stmt := top 19
abbrev s_law_lists_like : Stmt := top 20
abbrev s_law_next : Stmt := top 21
abbrev s_law_fallen : Stmt := top 22
abbrev s_law_turned : Stmt := top 23
abbrev s_law_stair : Stmt := top 24
abbrev s_law_by_marks : Stmt := top 25
abbrev s_law_drawn_marks : Stmt := top 26
abbrev s_law_elder : Stmt := top 27
abbrev s_law_drawn_piles : Stmt := top 28
abbrev s_law_setting : Stmt := top 29
abbrev s_law_all_marks : Stmt := top 30
abbrev s_law_rings : Stmt := top 31
abbrev s_law_rings_like : Stmt := top 32
abbrev s_law : Stmt := top 33
structure Txt (K : PySem.W.Frag) (mg : Str → Option Value) : Prop where
  d_turned_by : DefAt K mg "turned_by" s_turned_by
  d_stair_of : DefAt K mg "stair_of" s_stair_of
  d_setting_by : DefAt K mg "setting_by" s_setting_by
  d_ring_by : DefAt K mg "ring_by" s_ring_by
  d_must_count : DefAt K mg "must_count" s_must_count
  d_chosen : DefAt K mg "chosen" s_chosen
  d_common : DefAt K mg "common" s_common
  d_rings_many : DefAt K mg "rings_many" s_rings_many
  d_all_marks : DefAt K mg "all_marks" s_all_marks
  d_rings_of : DefAt K mg "rings_of" s_rings_of
  d_law_cell : DefAt K mg "_law_cell" s_law_cell
  d_law_whole : DefAt K mg "_law_whole" s_law_whole
  d_law_ints : DefAt K mg "_law_ints" s_law_ints
  d_law_lists_like : DefAt K mg "_law_lists_like" s_law_lists_like
  d_law_next : DefAt K mg "_law_next" s_law_next
  d_law_fallen : DefAt K mg "_law_fallen" s_law_fallen
  d_law_turned : DefAt K mg "_law_turned" s_law_turned
  d_law_stair : DefAt K mg "_law_stair" s_law_stair
  d_law_by_marks : DefAt K mg "_law_by_marks" s_law_by_marks
  d_law_drawn_marks : DefAt K mg "_law_drawn_marks" s_law_drawn_marks
  d_law_elder : DefAt K mg "_law_elder" s_law_elder
  d_law_drawn_piles : DefAt K mg "_law_drawn_piles" s_law_drawn_piles
  d_law_setting : DefAt K mg "_law_setting" s_law_setting
  d_law_all_marks : DefAt K mg "_law_all_marks" s_law_all_marks
  d_law_rings : DefAt K mg "_law_rings" s_law_rings
  d_law_rings_like : DefAt K mg "_law_rings_like" s_law_rings_like
  m_bool : mg "bool" = none
  m_int : mg "int" = none
  m_isinstance : mg "isinstance" = none
  m_len : mg "len" = none
  m_list : mg "list" = none
  m_max : mg "max" = none
  m_min : mg "min" = none
  m_range : mg "range" = none
  m_reversed : mg "reversed" = none
  m_sorted : mg "sorted" = none
  m_tuple : mg "tuple" = none
  m_zip : mg "zip" = none

section
variable {P : Program} {w : World} {K : PySem.W.Frag} {mg : Str → Option Value} {base : Heap}
theorem sc_stair_of : FnScope ["coins", "stair"] ["coins"] (defScope s_stair_of) := ⟨rfl, rfl, rfl, by decide +kernel, rfl, by decide +kernel, by decide +kernel⟩
def sp_stair_of : Sp := fun vs H Q _ => ∃ n : Nat, vs = [.int n] ∧ 1 ≤ n ∧ n ≤ 100000 ∧ Q (.int (stair n)) H
theorem ok_stair_of (T : Txt K mg) : Cal P w K mg base CX0 1 "stair_of" ["coins"] sp_stair_of := by
  refine cal_mk T.d_stair_of sc_stair_of ?_ (fun _ _ _ _ _ _ us hl => match us, hl with | [_], _ => rfl) (fun f cdv A outer s H vs Q E hr h => ?_)
  · intro vs H Q E h
    obtain ⟨n, rfl, _⟩ := h
    rfl
  obtain ⟨n, rfl, h1, h2, q⟩ := h
  refine ⟨_, (pss_cons (ps_set (i := 1) sc_stair_of.nd rfl (Or.inl rfl) pe_int)
      (pss_cons (ps_while PassesOwn.never (pt_cmpR op_lt (pe_op op_fdiv (pe_op op_mul (pv 1) (pe_op op_add (pv 1) pe_int)) pe_int) (pv 0) (nomark _))
      (pss_one (ps_set (i := 1) sc_stair_of.nd rfl (Or.inl rfl) (pe_op op_add (pv 1) pe_int))))
      (pss_one (ps_ret (pv 1))))), ?_⟩
  refine ⟨fun m σ H' => ∃ s : Nat, σ = [some (.int n), some (.int s)] ∧ H' = H ∧ m = 2 * n + 2 - s ∧ 1 ≤ s ∧ (s - 1) * s < 2 * n, ⟨_, 1, rfl, rfl, rfl, Nat.le_refl _, by omega⟩, fun m σ H' hW => ?_⟩
  obtain ⟨s, rfl, rfl, rfl, g1, g2⟩ := hW
  have g3 : s ≤ 2 * n + 1 := by
    have := Nat.mul_le_mul_left (s - 1) g1
    omega
  have hh := half_sq s
  refine ⟨_, rfl, _, rfl, _, _, rfl, rfl, _, _, rfl, rfl, .inl ⟨by omega, by omega⟩, _, _, rfl, rfl, ⟨by decide, by decide⟩, _, rfl, _, _, rfl, rfl, _, rfl, ite2 (fun c => ?_) (fun c => ?_)⟩
  · have c' : (s : Int) * ((s : Int) + 1) / 2 < (n : Int) := of_decide_eq_true c
    have c1 : ((s * (s + 1) / 2 : Nat) : Int) < (n : Int) := c'
    have c2 : s * (s + 1) < 2 * n := by omega
    refine ⟨fun σ' H2 => ∃ s' : Nat, s' = s + 1 ∧ σ' = [some (.int n), some (.int s')] ∧ H2 = H', fun σ' H2 h => ?_, ?_⟩
    · obtain ⟨s', rfl, e1, e2⟩ := h
      exact ⟨2 * n + 2 - (s + 1), by omega, s + 1, e1, e2, rfl, by omega, by rw [Nat.add_sub_cancel]; exact c2⟩
    · exact ⟨_, rfl, _, _, rfl, rfl, s + 1, rfl, rfl, rfl⟩
  · have c' : ¬ (s : Int) * ((s : Int) + 1) / 2 < (n : Int) := fun h => c (decide_eq_true h)
    have c1 : ¬ ((s * (s + 1) / 2 : Nat) : Int) < (n : Int) := c'
    have c2 : 2 * n ≤ s * (s + 1) := by omega
    rw [← stair_uniq h1 g1 g2 c2] at q
    exact ⟨_, rfl, q⟩

end

section
variable {P : Program} {w : World} {K : PySem.W.Frag} {mg : Str → Option Value} {base : Heap}
theorem sc_turned_by : FnScope ["piles", "rest", "pile", "fresh", "at"] ["piles"] (defScope s_turned_by) := ⟨rfl, rfl, rfl, by decide +kernel, rfl, by decide +kernel, by decide +kernel⟩
def sp_turned_by : Sp := fun vs H Q _ => ∃ (a : Addr) (ns : List Int), vs = [.ref a] ∧ IL H a ns ∧ ns.length ≤ 1000 ∧ NL Q H (turn ns)
theorem ok_turned_by (T : Txt K mg) : Cal P w K mg base CX0 1 "turned_by" ["piles"] sp_turned_by := by
  refine cal_mk T.d_turned_by sc_turned_by ?_ (fun _ _ _ _ _ _ us hl => match us, hl with | [_], _ => rfl) (fun f cdv A outer s H vs Q E hr h => ?_)
  · intro vs H Q E h
    obtain ⟨a, ns, rfl, _⟩ := h
    rfl
  obtain ⟨a, ns, rfl, hS, hl, q⟩ := h
  refine ⟨_, (pss_cons (ps_setLc (i := 1) (own := [("pile", 2)]) (g := gName 2) rfl sc_turned_by.nd rfl rfl (sw_true rfl rfl rfl (by decide +kernel)) (pi_list (pv 0)) (blkOk_by (own := [("pile", 2)]) (N := ["piles", "rest", "pile", "fresh", "at"]) (sc := defScope s_turned_by) (by decide +kernel)) (fun _ _ _ _ _ => pg_name (i := 2) sc_turned_by.nd rfl (Or.inl rfl)) (fun _ _ _ _ _ => (pts_one (pt_cmpR op_gt (pv 2) pe_int (nomark _)))) (fun _ _ _ _ _ => (pe_op op_sub (pv 2) pe_int)))
      (pss_cons (ps_set (i := 3) sc_turned_by.nd rfl (Or.inl rfl) (pe_callB call_len_seq (by rfl) T.m_len PySem.boot_len (pa_cons (pv 0) pa_nil)))
      (pss_cons (ps_set (i := 4) sc_turned_by.nd rfl (Or.inl rfl) pe_int)
      (pss_cons (ps_while PassesOwn.never (PW.pt (pw_and (pt_cmpR op_lt (pv 4) (pe_callB call_len_seq (by rfl) T.m_len PySem.boot_len (pa_cons (pv 1) pa_nil)) (nomark _)) (pw_and1 (pt_cmpR op_gt (pe_ix ix_list (pv 1) (pv 4) (fun _ _ => rfl)) (pv 3) (nomark _)))))
      (pss_one (ps_set (i := 4) sc_turned_by.nd rfl (Or.inl rfl) (pe_op op_add (pv 4) pe_int))))
      (pss_cons (ps_expr (pe_bm PySem.F.plainAttrs_list PySem.F.slot_list_insert PySem.F.type_list_insert mt_insert (pv 1) (pa_cons (pv 4) (pa_cons (pv 3) pa_nil))))
      (pss_one (ps_ret (pv 1)))))))), ?_⟩
  refine ⟨_, rfl, a, rfl, ⟨_, sq hS⟩, fun D nD => lc_list (K := K) (a := a) (xs := ns.map V.int) (fun i H' => Same H H' ∧ IL H' D (down1 (ns.take i))) ⟨same_new nD _, upd_same⟩ (fun i H' _ h => sq (h.1 _ _ hS)) ?_ ?_⟩
  · intro i x H' hx h
    obtain ⟨z, hz, rfl⟩ := get_int hx
    obtain ⟨sm, eD⟩ := h
    refine ⟨rfl, .int z, rfl, _, _, rfl, rfl, _, rfl, ?_⟩
    have ed : down1 (ns.take (i + 1)) = down1 (ns.take i) ++ (if z > 1 then [z - 1] else []) := by
      rw [take_snoc hz]
      unfold down1
      rw [List.filter_append, List.map_append]
      congr 1
      by_cases c : z > 1
      · rw [if_pos c, List.filter_cons, if_pos (decide_eq_true c)] <;> rfl
      · rw [if_neg c, List.filter_cons, if_neg (by simp only [decide_eq_true_eq]; exact c)] <;> rfl
    rw [ed]
    refine ite2 (fun c => ?_) (fun c => ?_)
    · have c' : z > 1 := of_decide_eq_true c
      rw [if_pos c']
      refine ⟨.int z, rfl, _, _, rfl, rfl, _, eD, ?_, same_mut sm nD _, ?_⟩
      · rw [nlen]
        have := down1_length (ns.take i)
        rw [List.length_take] at this
        exact smallL (by omega)
      · show upd _ _ _ _ = _
        rw [upd_same, List.map_append] <;> rfl
    · have c' : ¬ z > 1 := fun h => c (decide_eq_true h)
      rw [if_neg c', List.append_nil]
      exact ⟨sm, eD⟩
  · intro H1 h
    obtain ⟨sm, eD⟩ := h
    rw [nlen, List.take_length] at eD
    have hdl := down1_length ns
    refine ⟨_, rfl, a, _, rfl, .inl (sq (sm _ _ hS)), ?_⟩
    rw [nlen]
    generalize hrs : down1 ns = rs at *
    refine ⟨fun m σ H' => ∃ j : Nat, σ = [some (.ref a), some (.ref D), none, some (.int ns.length), some (.int j)] ∧ H' = H1 ∧ m = rs.length - j ∧ j ≤ rs.length ∧ ∀ i y, i < j → rs[i]? = some y → y > (ns.length : Int),
      ⟨_, 0, rfl, rfl, rfl, Nat.zero_le _, fun i y h => by omega⟩, fun m σ H' hW => ?_⟩
    obtain ⟨j, rfl, rfl, rfl, hj, hall⟩ := hW
    have fin : (∀ y, rs[j]? = some y → ¬ y > (ns.length : Int)) → NL Q H (rs.take j ++ [(ns.length : Int)] ++ rs.drop j) := fun h2 => by
      have := insD_at hj hall h2
      unfold turn at q
      rw [hrs, this] at q
      exact q
    have out : (∀ y, rs[j]? = some y → ¬ y > (ns.length : Int)) → Q (.ref D) (upd H' D (.lst ((rs.map V.int).take (j : Int).toNat ++ [V.int ns.length] ++ (rs.map V.int).drop (j : Int).toNat))) := fun h2 => by
      refine fin h2 _ D (same_mut sm nD _) nD ?_
      show upd _ _ _ _ = _
      rw [upd_same, Int.toNat_natCast, List.map_append, List.map_append, List.map_take, List.map_drop] <;> rfl
    refine ⟨_, rfl, _, rfl, D, _, rfl, .inl (sq eD), _, _, rfl, rfl, _, rfl, ite2 (fun c => ?_) (fun c => ?_)⟩
    · have c' : (j : Int) < ((rs.map V.int).length : Int) := of_decide_eq_true c
      rw [nlen] at c'
      have hjl : j < rs.length := by omega
      have gj : rs[j]? = some rs[j] := List.getElem?_eq_getElem hjl
      refine ⟨_, rfl, _, rfl, D, _, _, .int rs[j], rfl, rfl, sq eD, at_of (j := j) rfl (int_get gj), _, rfl, _, _, rfl, rfl, _, rfl, ite2 (fun d => ?_) (fun d => ?_)⟩
      · have d' : (ns.length : Int) < rs[j] := of_decide_eq_true d
        refine ⟨fun σ' H2 => ∃ j' : Nat, j' = j + 1 ∧ σ' = [some (.ref a), some (.ref D), none, some (.int ns.length), some (.int j')] ∧ H2 = H', fun σ' H2 h => ?_, ?_⟩
        · obtain ⟨j', rfl, e1, e2⟩ := h
          refine ⟨rs.length - (j + 1), by omega, j + 1, e1, e2, rfl, by omega, fun i y hi hy => ?_⟩
          rcases Nat.lt_or_ge i j with l | l
          · exact hall i y l hy
          · obtain rfl : i = j := by omega
            rw [gj] at hy
            have := Option.some.inj hy
            omega
        · exact ⟨_, rfl, _, _, rfl, rfl, j + 1, rfl, rfl, rfl⟩
      · have d' : ¬ (ns.length : Int) < rs[j] := fun h => d (decide_eq_true h)
        refine ⟨_, rfl, Or.inl ⟨rfl, _, sq eD⟩, _, rfl, _, rfl, D, rs.map V.int, _, _, rfl, rfl, eD, by rw [nlen]; exact smallL (by omega), by omega, by omega, ?_⟩
        refine ⟨_, rfl, out fun y hy => ?_⟩
        rw [gj] at hy
        have := Option.some.inj hy
        omega
    · have c' : ¬ (j : Int) < ((rs.map V.int).length : Int) := fun h => c (decide_eq_true h)
      rw [nlen] at c'
      refine ⟨_, rfl, Or.inl ⟨rfl, _, sq eD⟩, _, rfl, _, rfl, D, rs.map V.int, _, _, rfl, rfl, eD, by rw [nlen]; exact smallL (by omega), by omega, by omega, ?_⟩
      refine ⟨_, rfl, out fun y hy => ?_⟩
      have := (List.getElem?_eq_some_iff.mp hy).1
      omega

end

section
variable {P : Program} {w : World} {K : PySem.W.Frag} {mg : Str → Option Value} {base : Heap}
theorem sc_setting_by : FnScope ["marks", "piles", "k", "pile"] ["marks"] (defScope s_setting_by) := ⟨rfl, rfl, rfl, by decide +kernel, rfl, by decide +kernel, by decide +kernel⟩
def sp_setting_by : Sp := fun vs H Q _ => ∃ (a : Addr) (ms : List Int), vs = [.ref a] ∧ IL H a ms ∧ ms.length ≤ 1000 ∧ NL Q H (ofMarks ms)
theorem ok_setting_by (T : Txt K mg) : Cal P w K mg base CX0 1 "setting_by" ["marks"] sp_setting_by := by
  refine cal_mk T.d_setting_by sc_setting_by ?_ (fun _ _ _ _ _ _ us hl => match us, hl with | [_], _ => rfl) (fun f cdv A outer s H vs Q E hr h => ?_)
  · intro vs H Q E h
    obtain ⟨a, ms, rfl, _⟩ := h
    rfl
  obtain ⟨a, ms, rfl, hS, hl, q⟩ := h
  refine ⟨_, (pss_cons (ps_setLc (i := 1) (own := [("k", 2)]) (g := gName 2) rfl sc_setting_by.nd rfl rfl (sw_true rfl rfl rfl (by decide +kernel)) (pi_range1 (by rfl) T.m_range (pa_cons (pe_callB call_len_seq (by rfl) T.m_len PySem.boot_len (pa_cons (pv 0) pa_nil)) pa_nil)) (blkOk_by (own := [("k", 2)]) (N := ["marks", "piles", "k", "pile"]) (sc := defScope s_setting_by) (by decide +kernel)) (fun _ _ _ _ _ => pg_name (i := 2) sc_setting_by.nd rfl (Or.inl rfl)) (fun _ _ _ _ _ => pts_nil) (fun _ _ _ _ _ => (pe_op op_add (pe_op op_sub (pe_op op_sub (pe_callB (call_len_seqK K) (by rfl) T.m_len PySem.boot_len (pa_cons (pv 0) pa_nil)) pe_int) (pv 2)) (pe_ix (ix_listK K) (pv 0) (pv 2) (fun _ _ => rfl)))))
      (pss_one (ps_ret (pe_lc (own := [("pile", 3)]) (g := gName 3) rfl sc_setting_by.nd (pi_list (pv 1)) (blkOk_by (own := [("pile", 3)]) (N := ["marks", "piles", "k", "pile"]) (sc := defScope s_setting_by) (by decide +kernel)) (fun _ _ _ _ _ => pg_name (i := 3) sc_setting_by.nd rfl (Or.inl rfl)) (fun _ _ _ _ _ => (pts_one (pt_cmpR op_gt (pv 3) pe_int (nomark _)))) (fun _ _ _ _ _ => (pv 3)))))), ?_⟩
  refine ⟨_, rfl, a, _, rfl, .inl (sq hS), _, rfl, by rw [nlen]; omega, by rw [nlen]; omega, fun D nD => lc_range (lo := 0) (n := ((ms.map V.int).length : Int).toNat) (fun i H' => Same H H' ∧ IL H' D ((mk ms).take i)) ⟨same_new nD _, upd_same⟩ ?_ ?_⟩
  · intro i H' hi h
    obtain ⟨sm, eD⟩ := h
    rw [nlen] at hi
    have hi : i < ms.length := by omega
    refine ⟨rfl, _, rfl, a, _, rfl, .inl (sq (sm _ _ hS)), _, _, rfl, rfl, _, rfl, _, _, rfl, rfl, _, rfl, _, rfl, a, _, _, .int ms[i], rfl, rfl, sq (sm _ _ hS), at_of (j := i) (by omega) (int_get (List.getElem?_eq_getElem hi)), _, _, rfl, rfl, _, eD, ?_, same_mut sm nD _, ?_⟩
    · rw [nlen, List.length_take, mk_length]
      exact smallL (by omega)
    · have g := mk_get (List.getElem?_eq_getElem hi)
      show upd _ _ _ _ = _
      rw [upd_same, take_snoc g, List.map_append, nlen]
      congr 4
      simp
  · intro H1 h
    obtain ⟨sm, eD⟩ := h
    rw [nlen, Int.toNat_natCast, ← mk_length, List.take_length] at eD
    refine ⟨_, rfl, D, rfl, ⟨_, sq eD⟩, fun G nG => lc_list (K := K) (a := D) (xs := (mk ms).map V.int) (fun i H' => Same H1 H' ∧ IL H' G (((mk ms).take i).filter fun z => decide (z > 0))) ⟨same_new nG _, upd_same⟩ (fun i H' _ h => sq (h.1 _ _ eD)) ?_ ?_⟩
    · intro i x H' hx h
      obtain ⟨z, hz, rfl⟩ := get_int hx
      obtain ⟨sm2, eG⟩ := h
      refine ⟨rfl, _, rfl, _, _, rfl, rfl, _, rfl, ?_⟩
      rw [take_snoc hz, List.filter_append]
      refine ite2 (fun c => ?_) (fun c => ?_)
      · have c' : z > 0 := of_decide_eq_true c
        refine ⟨_, rfl, _, eG, ?_, same_mut sm2 nG _, ?_⟩
        · rw [nlen]
          have := List.length_filter_le (fun z => decide (z > 0)) ((mk ms).take i)
          rw [List.length_take, mk_length] at this
          exact smallL (by omega)
        · show upd _ _ _ _ = _
          rw [upd_same, List.map_append, List.filter_cons, if_pos (decide_eq_true c')] <;> rfl
      · have c' : ¬ z > 0 := fun h => c (decide_eq_true h)
        refine ⟨sm2, ?_⟩
        rw [List.filter_cons, if_neg (by simp only [decide_eq_true_eq]; exact c'), List.filter_nil, List.append_nil]
        exact eG
    · intro H2 h
      obtain ⟨sm2, eG⟩ := h
      rw [nlen, List.take_length] at eG
      exact q H2 G (sm.trans sm2) (sm.free nG) eG

end

section
variable {P : Program} {w : World} {K : PySem.W.Frag} {mg : Str → Option Value} {base : Heap}
theorem sc_ring_by : FnScope ["first", "found", "here"] ["first"] (defScope s_ring_by) := ⟨rfl, rfl, rfl, by decide +kernel, rfl, by decide +kernel, by decide +kernel⟩
def sp_ring_by : Sp := fun vs H Q _ => ∃ (a : Addr) (ns : List Int) (n : Int) (d : Nat), vs = [.ref a] ∧ IL H a ns ∧ IsSet n ns ∧ n ≤ 100 ∧ Ring ns d ∧ d ≤ 100000 ∧ NLL Q H (ringL d ns)
theorem ok_ring_by (T : Txt K mg) : Cal P w K mg base CX0 2 "ring_by" ["first"] sp_ring_by := by
  have C_turned_by := ok_turned_by (P := P) (w := w) (base := base) T
  refine cal_mk T.d_ring_by sc_ring_by ?_ (fun _ _ _ _ _ _ us hl => match us, hl with | [_], _ => rfl) (fun f cdv A outer s H vs Q E hr h => ?_)
  · intro vs H Q E h
    obtain ⟨a, ns, n, d, rfl, _⟩ := h
    rfl
  obtain ⟨a, ns, n, d, rfl, hS, hset, hn, hring, hd, q⟩ := h
  have hlen := hset.len
  refine ⟨_, (pss_cons (ps_set (i := 1) sc_ring_by.nd rfl (Or.inl rfl) (pe_lst (pa_cons (pe_callTy (T := "list") call_list_of (by rfl) T.m_list (by decide +kernel) (pa_cons (pv 0) pa_nil)) pa_nil)))
      (pss_cons (ps_set (i := 2) sc_ring_by.nd rfl (Or.inl rfl) (pe_callF C_turned_by (hr.mono (by decide)) (pa_cons (pv 0) pa_nil)))
      (pss_cons (ps_while PassesOwn.never (pt_cmpR (op_neD hr.units) (pv 2) (pe_ix ix_list (pv 1) pe_int (fun _ _ => rfl)) (nomark _))
      (pss_cons (ps_expr (pe_bm PySem.F.plainAttrs_list PySem.F.slot_list_append PySem.F.type_list_append mt_append (pv 1) (pa_cons (pv 2) pa_nil)))
      (pss_one (ps_set (i := 2) sc_ring_by.nd rfl (Or.inl rfl) (pe_callF C_turned_by (hr.mono (by decide)) (pa_cons (pv 2) pa_nil))))))
      (pss_one (ps_ret (pv 1)))))), ?_⟩
  -- found = [list(first)]
  refine ⟨_, rfl, a, _, rfl, .inl (sq hS), fun p0 n0 => ⟨(by show 1 ≤ sizeLine; decide), fun F nF => ?_⟩⟩
  have s0 := same_new n0 (.lst (ns.map V.int))
  have sF := same_new nF (.lst [V.ref p0])
  have e0 : IL (upd (upd H p0 (.lst (ns.map V.int))) F (.lst [V.ref p0])) p0 ns := sF p0 (.lst (ns.map V.int)) upd_same
  have eF : (upd (upd H p0 (.lst (ns.map V.int))) F (.lst [V.ref p0])) F = some (.lst [V.ref p0]) := upd_same
  have n0F : p0 ≠ F := ne_of_none upd_same nF
  have smA := s0.trans sF
  have nF' : H F = none := s0.free nF
  generalize upd (upd H p0 (.lst (ns.map V.int))) F (.lst [V.ref p0]) = H1 at *
  -- here
  refine ⟨_, rfl, a, ns, rfl, smA _ _ hS, by omega, fun H2 h sm2 nh eh => ?_⟩
  refine ⟨fun m σ H' => ∃ (j : Nat) (as : List Addr) (b : Addr), σ = [some (.ref a), some (.ref F), some (.ref b)] ∧ Same H H' ∧ LL H' F (p0 :: as) (ringL j ns) ∧ (∀ c ∈ p0 :: as, H c = none ∧ c ≠ F) ∧ IL H' b (turnN j ns) ∧ H b = none ∧ b ≠ F ∧ 1 ≤ j ∧ j ≤ d ∧ m = d - j,
    ⟨_, 1, [], h, rfl, smA.trans sm2, ⟨sm2 _ _ eF, sm2 _ _ e0, trivial⟩, fun c hc => by rw [List.mem_singleton.mp hc]; exact ⟨n0, n0F⟩, eh, smA.free nh, (ne_of_none eF nh).symm, Nat.le_refl _, hring.pos, rfl⟩, fun m σ H' hW => ?_⟩
  obtain ⟨j, as, b, rfl, sm, ⟨eF', hLL⟩, has, eb, nb, nbF, j1, jd, rfl⟩ := hW
  obtain ⟨x, hx, ex⟩ := hLL.get (i := 0) (a := p0) rfl
  have hx0 : x = ns := by
    obtain ⟨k, rfl⟩ : ∃ k, j = k + 1 := ⟨j - 1, by omega⟩
    have h0 : (ringL (k + 1) ns)[0]? = some ns := by
      unfold ringL
      rw [List.getElem?_map, List.getElem?_range (by omega)] <;> rfl
    rw [h0] at hx
    exact (Option.some.inj hx).symm
  rw [hx0] at ex
  have hal := hLL.len
  rw [ringL_len] at hal
  refine ⟨_, rfl, _, rfl, F, _, _, .ref p0, rfl, rfl, sq eF', atI_nat (j := 0) rfl, _, _, dp_ints (sq eb), dp_ints (sq ex), sh_ints _, sh_ints _, _, rfl, ite2 (fun c => ?_) (fun c => ?_)⟩
  · have hne : turnN j ns ≠ ns := fun e => by
      rw [eqv_ints, decide_eq_true e] at c
      cases c
    have hjd : j < d := by
      rcases Nat.lt_or_ge j d with l | l
      · exact l
      · obtain rfl : j = d := by omega
        exact absurd hring.back hne
    refine ⟨fun σ' H2 => ∃ (j' : Nat) (as : List Addr) (b : Addr), j' = j + 1 ∧ σ' = [some (.ref a), some (.ref F), some (.ref b)] ∧ Same H H2 ∧ LL H2 F (p0 :: as) (ringL j' ns) ∧ (∀ c ∈ p0 :: as, H c = none ∧ c ≠ F) ∧ IL H2 b (turnN j' ns) ∧ H b = none ∧ b ≠ F, fun σ' H2 h => ?_, ?_⟩
    · obtain ⟨j', as, b, rfl, e1, e2, e3, e4, e5, e6, e7⟩ := h
      exact ⟨d - (j + 1), by omega, j + 1, as, b, e1, e2, e3, e4, e5, e6, e7, by omega, by omega, rfl⟩
    · refine ⟨_, rfl, .inl ⟨rfl, _, sq eF'⟩, _, rfl, F, _, _, rfl, rfl, eF', by rw [rlen]; exact smallL (by omega), ?_⟩
      have sm3 : Same H (upd H' F (.lst ((p0 :: as).map V.ref ++ [V.ref b]))) := same_mut sm nF' _
      have eb3 : IL (upd H' F (.lst ((p0 :: as).map V.ref ++ [V.ref b]))) b (turnN j ns) := by
        show upd _ _ _ _ = _
        rw [upd_ne nbF]
        exact eb
      have hLL3 : LLs (upd H' F (.lst ((p0 :: as).map V.ref ++ [V.ref b]))) (p0 :: as) (ringL j ns) := hLL.upd fun c hc => (has c hc).2
      have eF3 : (upd H' F (.lst ((p0 :: as).map V.ref ++ [V.ref b]))) F = some (.lst ((p0 :: as).map V.ref ++ [V.ref b])) := upd_same
      generalize upd H' F (.lst ((p0 :: as).map V.ref ++ [V.ref b])) = H3 at *
      have hts := (turnN_set (j := j) hset).len
      refine ⟨_, rfl, b, _, rfl, eb3, by omega, fun H4 b' sm4 nb' eb' => ?_⟩
      refine ⟨j + 1, as ++ [b], b', rfl, rfl, sm3.trans sm4, ⟨?_, ?_⟩, fun c hc => ?_, by rw [turnN_succ]; exact eb', sm3.free nb', (ne_of_none eF3 nb').symm⟩
      · rw [sm4 _ _ eF3, ← List.cons_append, List.map_append] <;> rfl
      · rw [ringL_succ, ← List.cons_append]
        exact (hLL3.same sm4).app ⟨sm4 _ _ eb3, trivial⟩
      · rw [← List.cons_append] at hc
        rcases List.mem_append.mp hc with hc | hc
        · exact has c hc
        · rw [List.mem_singleton.mp hc]
          exact ⟨nb, nbF⟩
  · have he : turnN j ns = ns := by
      by_cases e : turnN j ns = ns
      · exact e
      · rw [eqv_ints, decide_eq_false e] at c
        exact absurd rfl c
    have hjd : j = d := by
      rcases Nat.lt_or_ge j d with l | l
      · exact absurd he (hring.first j (by omega) l)
      · omega
    subst hjd
    exact ⟨_, rfl, q H' F (p0 :: as) sm nF' (fun c hc => (has c hc).1) ⟨eF', hLL⟩⟩

end

section
variable {P : Program} {w : World} {K : PySem.W.Frag} {mg : Str → Option Value} {base : Heap}
theorem sc_must_count : FnScope ["coins", "most"] ["coins", "most"] (defScope s_must_count) := ⟨rfl, rfl, rfl, by decide +kernel, rfl, by decide +kernel, by decide +kernel⟩
def sp_must_count : Sp := fun vs H Q _ => ∃ n m : Int, vs = [.int n, .int m] ∧ 1 ≤ n ∧ n ≤ m ∧ Q .non H
theorem ok_must_count (T : Txt K mg) : Cal P w K mg base CX0 1 "must_count" ["coins", "most"] sp_must_count := by
  refine cal_mk T.d_must_count sc_must_count ?_ (fun _ _ _ _ _ _ us hl => match us, hl with | [_, _], _ => rfl) (fun f cdv A outer s H vs Q E hr h => ?_)
  · intro vs H Q E h
    obtain ⟨n, m, rfl, _⟩ := h
    rfl
  obtain ⟨n, m, rfl, h1, h2, q⟩ := h
  refine ⟨_, (pss_one (ps_if (PW.pt (pw_or (pt_cmpR op_lt (pv 0) pe_int (nomark _)) (pw_or1 (pt_cmpR op_gt (pv 0) (pv 1) (nomark _)))))
      (pss_one ps_never) pss_nil)), ?_⟩
  refine ⟨_, rfl, _, _, rfl, rfl, _, rfl, ite2 (fun c => absurd (of_decide_eq_true c) (by omega)) (fun _ => ⟨_, rfl, _, rfl, _, _, rfl, rfl, _, rfl, ite2 (fun c => absurd (of_decide_eq_true c) (by omega)) (fun _ => q)⟩)⟩

end

section
variable {P : Program} {w : World} {K : PySem.W.Frag} {mg : Str → Option Value} {base : Heap}
theorem sc_chosen : FnScope ["all_of", "some", "total", "k"] ["all_of", "some"] (defScope s_chosen) := ⟨rfl, rfl, rfl, by decide +kernel, rfl, by decide +kernel, by decide +kernel⟩
def sp_chosen : Sp := fun vs H Q _ => ∃ a k : Nat, vs = [.int a, .int k] ∧ k ≤ a ∧ a ≤ 100000 ∧ Q (.int (choN a k)) H
theorem ok_chosen (T : Txt K mg) : Cal P w K mg base CX0 1 "chosen" ["all_of", "some"] sp_chosen := by
  refine cal_mk T.d_chosen sc_chosen ?_ (fun _ _ _ _ _ _ us hl => match us, hl with | [_, _], _ => rfl) (fun f cdv A outer s H vs Q E hr h => ?_)
  · intro vs H Q E h
    obtain ⟨n, m, rfl, _⟩ := h
    rfl
  obtain ⟨n, m, rfl, h1, h2, q⟩ := h
  refine ⟨_, (pss_cons (ps_set (i := 2) sc_chosen.nd rfl (Or.inl rfl) pe_int)
      (pss_cons (ps_for PassesOwn.never rfl (pi_range1 (by rfl) T.m_range (pa_cons (pv 1) pa_nil)) (pg_name (i := 3) sc_chosen.nd rfl (Or.inl rfl))
      (pss_one (ps_set (i := 2) sc_chosen.nd rfl (Or.inl rfl) (pe_op op_fdiv (pe_op op_mul (pv 2) (pe_op op_sub (pv 0) (pv 3))) (pe_op op_add (pv 3) pe_int)))))
      (pss_one (ps_ret (pv 2))))), ?_⟩
  refine ⟨_, rfl, m, rfl, by omega, by omega, for_range (lo := 0) (n := (m : Int).toNat) (fun i σ H' => ∃ y, σ = [some (.int n), some (.int m), some (.int (choN n i)), y] ∧ H' = H) ⟨none, rfl, rfl⟩ ?_ ?_⟩
  · intro i σ H' hi h
    obtain ⟨y, rfl, rfl⟩ := h
    have hi : i < m := by omega
    have e1 : (n : Int) - (0 + (i : Int)) = ((n - i : Nat) : Int) := by omega
    refine ⟨_, rfl, _, rfl, _, rfl, _, _, rfl, rfl, _, _, rfl, rfl, .inr ⟨by omega, by omega⟩, _, rfl, _, _, rfl, rfl, _, _, rfl, rfl, ⟨by show (0 : Int) < 0 + (i : Int) + 1; omega, by show 0 + (i : Int) + 1 < 1073741824; omega⟩, some (.int (0 + (i : Int))), ?_, rfl⟩
    have e2 : (choN n (i + 1) : Int) = (choN n i : Int) * ((n : Int) - (0 + (i : Int))) / (0 + (i : Int) + 1) := by
      rw [e1, Int.zero_add]
      rfl
    rw [e2]
    rfl
  · intro σ H' h
    obtain ⟨y, rfl, rfl⟩ := h
    rw [Int.toNat_natCast]
    exact ⟨_, rfl, q⟩

end

section
variable {P : Program} {w : World} {K : PySem.W.Frag} {mg : Str → Option Value} {base : Heap}
theorem sc_common : FnScope ["one", "other", "rest"] ["one", "other"] (defScope s_common) := ⟨rfl, rfl, rfl, by decide +kernel, rfl, by decide +kernel, by decide +kernel⟩
def sp_common : Sp := fun vs H Q _ => ∃ a b : Nat, vs = [.int a, .int b] ∧ Q (.int (Nat.gcd a b)) H
theorem ok_common (T : Txt K mg) : Cal P w K mg base CX0 1 "common" ["one", "other"] sp_common := by
  refine cal_mk T.d_common sc_common ?_ (fun _ _ _ _ _ _ us hl => match us, hl with | [_, _], _ => rfl) (fun f cdv A outer s H vs Q E hr h => ?_)
  · intro vs H Q E h
    obtain ⟨n, m, rfl, _⟩ := h
    rfl
  obtain ⟨n, m, rfl, q⟩ := h
  refine ⟨_, (pss_cons (ps_while PassesOwn.never (pt_cmpR op_gt (pv 1) pe_int (nomark _))
      (pss_cons (ps_set (i := 2) sc_common.nd rfl (Or.inl rfl) (pe_op op_mod (pv 0) (pv 1)))
      (pss_cons (ps_set (i := 0) sc_common.nd rfl (Or.inl rfl) (pv 1))
      (pss_one (ps_set (i := 1) sc_common.nd rfl (Or.inl rfl) (pv 2))))))
      (pss_one (ps_ret (pv 0)))), ?_⟩
  refine ⟨fun k σ H' => ∃ (a b : Nat) (y : Option V), σ = [some (.int a), some (.int b), y] ∧ H' = H ∧ k = b ∧ Nat.gcd a b = Nat.gcd n m, ⟨_, n, m, none, rfl, rfl, rfl, rfl⟩, fun k σ H' hW => ?_⟩
  obtain ⟨a, b, y, rfl, rfl, rfl, hg⟩ := hW
  refine ⟨_, rfl, _, _, rfl, rfl, _, rfl, ite2 (fun c => ?_) (fun c => ?_)⟩
  · have c' : (0 : Int) < (k : Int) := of_decide_eq_true c
    have hk : 0 < k := by omega
    refine ⟨fun σ' H2 => ∃ (b' : Nat) (y : Option V), b' = a % k ∧ σ' = [some (.int k), some (.int b'), y] ∧ H2 = H', fun σ' H2 h => ?_, ?_⟩
    · obtain ⟨b', y, rfl, e1, e2⟩ := h
      refine ⟨a % k, Nat.mod_lt _ hk, k, a % k, y, e1, e2, rfl, ?_⟩
      rw [← hg, Nat.gcd_comm a k, Nat.gcd_rec k a, Nat.gcd_comm]
    · exact ⟨_, rfl, _, rfl, _, _, rfl, rfl, (by show (0 : Int) < (k : Int); omega), _, rfl, _, rfl, _, _, rfl, rfl, rfl⟩
  · have c' : ¬ (0 : Int) < (k : Int) := fun h => c (decide_eq_true h)
    obtain rfl : k = 0 := by omega
    rw [← hg, Nat.gcd_zero_right] at q
    exact ⟨_, rfl, q⟩

end

section
variable {P : Program} {w : World} {K : PySem.W.Frag} {mg : Str → Option Value} {base : Heap}
theorem sc_rings_many : FnScope ["coins", "stair", "rest", "total", "turns", "alike", "block"] ["coins"] (defScope s_rings_many) := ⟨rfl, rfl, rfl, by decide +kernel, rfl, by decide +kernel, by decide +kernel⟩
theorem ring_fit {s r t : Nat} (hs : 1 ≤ s) (hr : r ≤ s) : 1 ≤ Nat.gcd s t ∧ Nat.gcd s t ≤ s ∧ 1 ≤ s / Nat.gcd s t ∧ s / Nat.gcd s t ≤ s ∧ r / (s / Nat.gcd s t) ≤ Nat.gcd s t := by
  have h0 : 0 < Nat.gcd s t := Nat.gcd_pos_of_pos_left t hs
  have hd := Nat.gcd_dvd_left s t
  have h1 := Nat.le_of_dvd hs hd
  have h2 := Nat.div_pos h1 h0
  refine ⟨h0, h1, h2, Nat.div_le_self _ _, ?_⟩
  have h3 : r / (s / Nat.gcd s t) ≤ s / (s / Nat.gcd s t) := Nat.div_le_div_right hr
  rw [Nat.div_div_self hd (by omega)] at h3
  exact h3
def sp_rings_many : Sp := fun vs H Q _ => ∃ n : Nat, vs = [.int n] ∧ 1 ≤ n ∧ n ≤ 2000 ∧ Q (.int (ringsN (stair n) (restOf n))) H
theorem ok_rings_many (T : Txt K mg) : Cal P w K mg base CX0 2 "rings_many" ["coins"] sp_rings_many := by
  have C_chosen := ok_chosen (P := P) (w := w) (base := base) T
  have C_common := ok_common (P := P) (w := w) (base := base) T
  have C_must_count := ok_must_count (P := P) (w := w) (base := base) T
  have C_stair_of := ok_stair_of (P := P) (w := w) (base := base) T
  refine cal_mk T.d_rings_many sc_rings_many ?_ (fun _ _ _ _ _ _ us hl => match us, hl with | [_], _ => rfl) (fun f cdv A outer s H vs Q E hr h => ?_)
  · intro vs H Q E h
    obtain ⟨n, rfl, _⟩ := h
    rfl
  obtain ⟨n, rfl, h1, h2, q⟩ := h
  refine ⟨_, (pss_cons (ps_expr (pe_callF C_must_count (hr.mono (by decide)) (pa_cons (pv 0) (pa_cons pe_int pa_nil))))
      (pss_cons (ps_set (i := 1) sc_rings_many.nd rfl (Or.inl rfl) (pe_callF C_stair_of (hr.mono (by decide)) (pa_cons (pv 0) pa_nil)))
      (pss_cons (ps_set (i := 2) sc_rings_many.nd rfl (Or.inl rfl) (pe_op op_sub (pv 0) (pe_op op_fdiv (pe_op op_mul (pv 1) (pe_op op_sub (pv 1) pe_int)) pe_int)))
      (pss_cons (ps_set (i := 3) sc_rings_many.nd rfl (Or.inl rfl) pe_int)
      (pss_cons (ps_for PassesOwn.never rfl (pi_range1 (by rfl) T.m_range (pa_cons (pv 1) pa_nil)) (pg_name (i := 4) sc_rings_many.nd rfl (Or.inl rfl))
      (pss_cons (ps_set (i := 5) sc_rings_many.nd rfl (Or.inl rfl) (pe_callF C_common (hr.mono (by decide)) (pa_cons (pv 1) (pa_cons (pv 4) pa_nil))))
      (pss_cons (ps_set (i := 6) sc_rings_many.nd rfl (Or.inl rfl) (pe_op op_fdiv (pv 1) (pv 5)))
      (pss_one (ps_if (pt_cmpR op_eq (pe_op op_mod (pv 2) (pv 6)) pe_int (nomark _))
      (pss_one (ps_set (i := 3) sc_rings_many.nd rfl (Or.inl rfl) (pe_op op_add (pv 3) (pe_callF C_chosen (hr.mono (by decide)) (pa_cons (pv 5) (pa_cons (pe_op op_fdiv (pv 2) (pv 6)) pa_nil)))))) pss_nil)))))
      (pss_one (ps_ret (pe_op op_fdiv (pv 3) (pv 1))))))))), ?_⟩
  obtain ⟨r1, r2, r3⟩ := rest_spec h1
  have hs := stair_le h1 (b := 63) (by omega) (by omega)
  have hs1 := (stair_spec h1).1
  refine ⟨_, rfl, n, 2000, rfl, by omega, by omega, _, rfl, n, rfl, h1, by omega, ?_⟩
  generalize hst : stair n = S at *
  generalize hro : restOf n = R at *
  have e1 : (n : Int) - (S : Int) * ((S : Int) - 1) / 2 = (R : Int) := by
    have : (S : Int) * ((S : Int) - 1) = ((S * (S - 1) : Nat) : Int) := by
      rw [Int.natCast_mul]
      congr 1
      omega
    rw [this]
    omega
  refine ⟨_, rfl, _, rfl, _, rfl, _, _, rfl, rfl, _, _, rfl, rfl, .inl ⟨by omega, by omega⟩, _, _, rfl, rfl, ⟨by decide, by decide⟩, _, _, rfl, rfl, ?_⟩
  refine ⟨_, rfl, S, rfl, by omega, by omega, for_range (lo := 0) (n := (S : Int).toNat) (fun i σ H' => ∃ y1 y2 y3, σ = [some (.int n), some (.int S), some (.int ((n : Int) - (S : Int) * ((S : Int) - 1) / 2)), some (.int (sumTo (ringT S R) i)), y1, y2, y3] ∧ H' = H) ⟨none, none, none, rfl, rfl⟩ ?_ ?_⟩
  · intro i σ H' hi h
    obtain ⟨y1, y2, y3, rfl, rfl⟩ := h
    rw [e1]
    obtain ⟨f1, f2, f3, f4, f5⟩ := ring_fit (t := i) hs1 r2
    refine ⟨_, rfl, _, rfl, S, i, by rw [Int.zero_add] <;> rfl, ?_⟩
    have ht : sumTo (ringT S R) (i + 1) = sumTo (ringT S R) i + ringT S R i := rfl
    rw [ht]
    unfold ringT
    generalize hgc : Nat.gcd S i = A at *
    refine ⟨_, rfl, _, rfl, _, _, rfl, rfl, ⟨by show (0 : Int) < (A : Int); omega, by show (A : Int) < 1073741824; omega⟩, ?_⟩
    have hb : (S : Int) / (A : Int) = ((S / A : Nat) : Int) := rfl
    refine ⟨_, rfl, _, rfl, _, _, rfl, rfl, (by show (0 : Int) < ((S / A : Nat) : Int); omega), rfl, _, rfl, ite2 (fun c => ?_) (fun c => ?_)⟩
    · have c' : ((R % (S / A) : Nat) : Int) = 0 := V.int.inj (of_decide_eq_true c)
      rw [if_pos (by omega)]
      refine ⟨_, rfl, _, rfl, _, rfl, _, rfl, _, _, rfl, rfl, ⟨by show (0 : Int) < ((S / A : Nat) : Int); omega, by show ((S / A : Nat) : Int) < 1073741824; omega⟩, A, R / (S / A), rfl, f5, by omega, _, _, rfl, rfl, ?_⟩
      exact ⟨_, _, _, rfl, rfl⟩
    · have c' : ¬ ((R % (S / A) : Nat) : Int) = 0 := fun e => c (decide_eq_true (congrArg V.int e))
      rw [if_neg (by omega)]
      exact ⟨_, _, _, rfl, rfl⟩
  · intro σ H' h
    obtain ⟨y1, y2, y3, rfl, rfl⟩ := h
    rw [Int.toNat_natCast]
    exact ⟨_, rfl, _, rfl, _, _, rfl, rfl, ⟨by show (0 : Int) < (S : Int); omega, by show (S : Int) < 1073741824; omega⟩, q⟩

end

section
variable {P : Program} {w : World} {K : PySem.W.Frag} {mg : Str → Option Value} {base : Heap}
theorem sc_all_marks : FnScope ["many", "ones", "found", "rest"] ["many", "ones"] (defScope s_all_marks) := ⟨rfl, rfl, rfl, by decide +kernel, rfl, by decide +kernel, by decide +kernel⟩
def sp_all_marks (n : Nat) : Sp := fun vs H Q _ => ∃ (m : Nat) (o : Int), vs = [.int m, .int o] ∧ m < n ∧ m ≤ 12 ∧ NLL Q H (allM m o)
theorem step_all_marks (T : Txt K mg) {n : Nat} (C_all_marks : Cal P w K mg base CX0 n "all_marks" ["many", "ones"] (sp_all_marks n)) : Cal P w K mg base CX0 (n + 1) "all_marks" ["many", "ones"] (sp_all_marks (n + 1)) := by
  refine cal_mk T.d_all_marks sc_all_marks ?_ (fun _ _ _ _ _ _ us hl => match us, hl with | [_, _], _ => rfl) (fun f cdv A outer s H vs Q E hr h => ?_)
  · intro vs H Q E h
    obtain ⟨m, o, rfl, _⟩ := h
    rfl
  obtain ⟨m, o, rfl, h1, h2, q⟩ := h
  refine ⟨_, (pss_cons (ps_if (PW.pt (pw_or (pt_cmpR op_lt (pv 1) pe_int (nomark _)) (pw_or1 (pt_cmpR op_gt (pv 1) (pv 0) (nomark _)))))
      (pss_one (ps_ret (pe_lst pa_nil))) pss_nil)
      (pss_cons (ps_if (pt_cmpR op_eq (pv 0) pe_int (nomark _))
      (pss_one (ps_ret (pe_lst (pa_cons (pe_lst pa_nil) pa_nil)))) pss_nil)
      (pss_cons (ps_setLc (i := 2) (own := [("rest", 3)]) (g := gName 3) rfl sc_all_marks.nd rfl rfl (sw_true rfl rfl rfl (by decide +kernel)) (pi_list (pe_callF C_all_marks hr (pa_cons (pe_op op_sub (pv 0) pe_int) (pa_cons (pe_op op_sub (pv 1) pe_int) pa_nil)))) (blkOk_by (own := [("rest", 3)]) (N := ["many", "ones", "found", "rest"]) (sc := defScope s_all_marks) (by decide +kernel)) (fun _ _ _ _ _ => pg_name (i := 3) sc_all_marks.nd rfl (Or.inl rfl)) (fun _ _ _ _ _ => pts_nil) (fun _ _ _ _ _ => (pe_op op_cat (pe_lst (pa_cons pe_int pa_nil)) (pv 3))))
      (pss_one (ps_ret (pe_op op_cat (pv 2) (pe_lc (own := [("rest", 3)]) (g := gName 3) rfl sc_all_marks.nd (pi_list (pe_callF C_all_marks hr (pa_cons (pe_op op_sub (pv 0) pe_int) (pa_cons (pv 1) pa_nil)))) (blkOk_by (own := [("rest", 3)]) (N := ["many", "ones", "found", "rest"]) (sc := defScope s_all_marks) (by decide +kernel)) (fun _ _ _ _ _ => pg_name (i := 3) sc_all_marks.nd rfl (Or.inl rfl)) (fun _ _ _ _ _ => pts_nil) (fun _ _ _ _ _ => (pe_op op_cat (pe_lst (pa_cons pe_int pa_nil)) (pv 3)))))))))), ?_⟩
  have none0 : ∀ H', Same H H' → ∀ p, H' p = none → NLL Q H [] → Q (.ref p) (upd H' p (.lst [])) := fun H' sm p np q => q _ p [] (sm.trans (same_new np _)) (sm.free np) (fun a ha => by cases ha) ⟨upd_same, trivial⟩
  refine ⟨_, rfl, _, _, rfl, rfl, _, rfl, ite2 (fun c => ?_) (fun c => ⟨_, rfl, _, rfl, _, _, rfl, rfl, _, rfl, ite2 (fun d => ?_) (fun d => ?_)⟩)⟩
  · have c' : o < 0 := of_decide_eq_true c
    have e : allM m o = [] := by
      cases m <;> (unfold allM; rw [if_pos c'])
    rw [e] at q
    exact ⟨Nat.zero_le _, fun p np => none0 H (Same.refl H) p np q⟩
  · have c' : ¬ o < 0 := fun h => c (decide_eq_true h)
    have d' : (m : Int) < o := of_decide_eq_true d
    have e : allM m o = [] := by
      cases m with
      | zero => unfold allM; rw [if_neg c', if_pos (show o > 0 by omega)]
      | succ k => unfold allM; rw [if_neg c', if_pos d']
    rw [e] at q
    exact ⟨Nat.zero_le _, fun p np => none0 H (Same.refl H) p np q⟩
  have c' : ¬ o < 0 := fun h => c (decide_eq_true h)
  have d' : ¬ (m : Int) < o := fun h => d (decide_eq_true h)
  refine ⟨_, rfl, rfl, _, rfl, ite2 (fun c => ?_) (fun c => ?_)⟩
  · have c2 := V.int.inj (of_decide_eq_true c)
    obtain rfl : m = 0 := by omega
    have e : allM 0 o = [[]] := by
      unfold allM
      rw [if_neg c', if_neg (by omega)]
    rw [e] at q
    refine ⟨Nat.zero_le _, fun p1 n1 => ⟨(by show 1 ≤ sizeLine; decide), fun p2 n2 => ?_⟩⟩
    have s1 := same_new n1 (.lst ([] : List V))
    have s2 := same_new n2 (.lst [V.ref p1])
    exact q _ p2 [p1] (s1.trans s2) (s1.free n2) (fun a ha => by rw [List.mem_singleton.mp ha]; exact n1) ⟨upd_same, s2 p1 (.lst ([] : List V)) upd_same, trivial⟩
  · have hm : m ≠ 0 := fun e => c (decide_eq_true (congrArg V.int (by omega)))
    obtain ⟨k, rfl⟩ : ∃ k, m = k + 1 := ⟨m - 1, by omega⟩
    have e : allM (k + 1) o = (allM k (o - 1)).map (1 :: ·) ++ (allM k o).map (0 :: ·) := by
      show (if _ then _ else if _ then _ else _) = _
      rw [if_neg c', if_neg d']
    rw [e] at q
    have ek : ((k + 1 : Nat) : Int) - 1 = (k : Int) := by omega
    have hp : 2 ^ k ≤ 2 ^ 11 := Nat.pow_le_pow_right (by decide) (by omega)
    refine ⟨_, rfl, _, _, rfl, rfl, _, rfl, _, _, rfl, rfl, k, o - 1, congrArg (fun z => [V.int z, V.int (o - 1)]) ek, by omega, by omega, fun H2 R rs sm2 nR nrs hR => ?_⟩
    obtain ⟨eR, hrs⟩ := hR
    have hrl := hrs.len
    have hpl := allM_len k (o - 1)
    generalize hPP : allM k (o - 1) = PP at *
    refine ⟨R, rfl, ⟨_, sq eR⟩, fun D nD => lc_list (K := K) (a := R) (xs := rs.map V.ref) (fun i H' => ∃ bs : List Addr, Same H H' ∧ H' R = some (.lst (rs.map V.ref)) ∧ LLs H' rs PP ∧ LL H' D bs ((PP.take i).map (1 :: ·)) ∧ ∀ a ∈ bs, H a = none ∧ a ≠ D)
      ⟨[], sm2.trans (same_new nD _), same_new nD _ _ _ eR, hrs.same (same_new nD _), ⟨upd_same, trivial⟩, fun a ha => (by cases ha)⟩ (fun i H' _ h => by obtain ⟨_, _, e, _⟩ := h; exact sq e) ?_ ?_⟩
    · intro i x H' hx h
      obtain ⟨r, hr, rfl⟩ := get_ref hx
      obtain ⟨bs, sm3, eR3, hrs3, ⟨eD3, hLL3⟩, hbs⟩ := h
      obtain ⟨ns, hns, er⟩ := hrs3.get hr
      have hil := (List.getElem?_eq_some_iff.mp hns).1
      have hnl : ns.length ≤ 12 := by
        have := (mem_allM.mp (by rw [hPP]; exact List.mem_of_getElem? hns)).2.1
        omega
      have hl3 := hLL3.len
      rw [List.length_map, List.length_take] at hl3
      refine ⟨rfl, (by show 1 ≤ sizeLine; decide), fun p1 n1 => ?_⟩
      have s1 := same_new n1 (.lst [V.int 1])
      refine ⟨_, rfl, p1, r, _, _, rfl, rfl, upd_same, s1 _ _ er, by rw [nlen]; exact small (by show 1 + ns.length ≤ _; omega), fun p2 n2 => ?_⟩
      have s2 := same_new n2 (.lst ([V.int 1] ++ ns.map V.int))
      have e2 : IL (upd (upd H' p1 (.lst [V.int 1])) p2 (.lst ([V.int 1] ++ ns.map V.int))) p2 (1 :: ns) := upd_same
      have s12 := s1.trans s2
      have n2' : H' p2 = none := s1.free n2
      generalize upd (upd H' p1 (.lst [V.int 1])) p2 (.lst ([V.int 1] ++ ns.map V.int)) = H4 at *
      have eD4 := s12 _ _ eD3
      have nDp : p2 ≠ D := (ne_of_none eD3 n2').symm
      refine ⟨_, eD4, by rw [rlen]; exact smallM (by omega), ?_⟩
      have nD0 : H D = none := sm2.free nD
      have nRD : R ≠ D := ne_of_none eR nD
      have rne : ∀ a ∈ rs, a ≠ D := hrs.ne nD
      refine ⟨bs ++ [p2], same_mut (sm3.trans s12) nD0 _, by rw [upd_ne nRD]; exact s12 _ _ eR3, (hrs3.same s12).upd rne, ⟨?_, ?_⟩, fun a ha => ?_⟩
      · simp only [upd_same, List.map_append]
        rfl
      · rw [take_snoc hns, List.map_append]
        refine LLs.upd (fun a ha => ?_) ((hLL3.same s12).app ⟨e2, trivial⟩)
        rcases List.mem_append.mp ha with ha | ha
        · exact (hbs a ha).2
        · rw [List.mem_singleton.mp ha]
          exact nDp
      · rcases List.mem_append.mp ha with ha | ha
        · exact hbs a ha
        · rw [List.mem_singleton.mp ha]
          exact ⟨sm3.free n2', nDp⟩
    · intro H5 h
      obtain ⟨as, smA, _, _, hA, hasA⟩ := h
      rw [rlen, hrl, List.take_length] at hA
      have nD0 : H D = none := sm2.free nD
      clear eR hrs hrl nR nrs sm2 nD hPP
      refine ⟨_, rfl, _, rfl, _, _, rfl, rfl, _, rfl, k, o, congrArg (fun z => [V.int z, V.int o]) ek, by omega, by omega, fun H6 R rs sm6 nR nrs hR => ?_⟩
      obtain ⟨eR, hrs⟩ := hR
      have hrl := hrs.len
      have hpl2 := allM_len k o
      have hA6 : LL H6 D as (PP.map (1 :: ·)) := ⟨sm6 _ _ hA.1, hA.2.same sm6⟩
      have hal := hA6.2.len
      rw [List.length_map] at hal
      generalize hQQ : allM k o = QQ at *
      refine ⟨R, rfl, ⟨_, sq eR⟩, fun D2 nD2 => lc_list (K := K) (a := R) (xs := rs.map V.ref) (fun i H' => ∃ bs : List Addr, Same H6 H' ∧ H' R = some (.lst (rs.map V.ref)) ∧ LLs H' rs QQ ∧ LL H' D2 bs ((QQ.take i).map (0 :: ·)) ∧ ∀ a ∈ bs, H6 a = none ∧ a ≠ D2)
        ⟨[], same_new nD2 _, same_new nD2 _ _ _ eR, hrs.same (same_new nD2 _), ⟨upd_same, trivial⟩, fun a ha => (by cases ha)⟩ (fun i H' _ h => by obtain ⟨_, _, e, _⟩ := h; exact sq e) ?_ ?_⟩
      · intro i x H' hx h
        obtain ⟨r, hr, rfl⟩ := get_ref hx
        obtain ⟨bs, sm3, eR3, hrs3, ⟨eD3, hLL3⟩, hbs⟩ := h
        obtain ⟨ns, hns, er⟩ := hrs3.get hr
        have hil := (List.getElem?_eq_some_iff.mp hns).1
        have hnl : ns.length ≤ 12 := by
          have := (mem_allM.mp (by rw [hQQ]; exact List.mem_of_getElem? hns)).2.1
          omega
        have hl3 := hLL3.len
        rw [List.length_map, List.length_take] at hl3
        refine ⟨rfl, (by show 1 ≤ sizeLine; decide), fun p1 n1 => ?_⟩
        have s1 := same_new n1 (.lst [V.int 0])
        refine ⟨_, rfl, p1, r, _, _, rfl, rfl, upd_same, s1 _ _ er, by rw [nlen]; exact small (by show 1 + ns.length ≤ _; omega), fun p2 n2 => ?_⟩
        have s2 := same_new n2 (.lst ([V.int 0] ++ ns.map V.int))
        have e2 : IL (upd (upd H' p1 (.lst [V.int 0])) p2 (.lst ([V.int 0] ++ ns.map V.int))) p2 (0 :: ns) := upd_same
        have s12 := s1.trans s2
        have n2' : H' p2 = none := s1.free n2
        generalize upd (upd H' p1 (.lst [V.int 0])) p2 (.lst ([V.int 0] ++ ns.map V.int)) = H4 at *
        have eD4 := s12 _ _ eD3
        have nDp : p2 ≠ D2 := (ne_of_none eD3 n2').symm
        refine ⟨_, eD4, by rw [rlen]; exact smallM (by omega), ?_⟩
        have nRD : R ≠ D2 := ne_of_none eR nD2
        have rne : ∀ a ∈ rs, a ≠ D2 := hrs.ne nD2
        refine ⟨bs ++ [p2], same_mut (sm3.trans s12) nD2 _, by rw [upd_ne nRD]; exact s12 _ _ eR3, (hrs3.same s12).upd rne, ⟨?_, ?_⟩, fun a ha => ?_⟩
        · simp only [upd_same, List.map_append]
          rfl
        · rw [take_snoc hns, List.map_append]
          refine LLs.upd (fun a ha => ?_) ((hLL3.same s12).app ⟨e2, trivial⟩)
          rcases List.mem_append.mp ha with ha | ha
          · exact (hbs a ha).2
          · rw [List.mem_singleton.mp ha]
            exact nDp
        · rcases List.mem_append.mp ha with ha | ha
          · exact hbs a ha
          · rw [List.mem_singleton.mp ha]
            exact ⟨sm3.free n2', nDp⟩
      · intro H7 h
        obtain ⟨bs, smB, _, _, hB, hasB⟩ := h
        rw [rlen, hrl, List.take_length] at hB
        have hbl := hB.2.len
        rw [List.length_map] at hbl
        refine ⟨D, D2, _, _, rfl, rfl, smB _ _ hA6.1, hB.1, by rw [rlen, rlen]; exact small (by omega), fun L nL => ?_⟩
        have smL := (smA.trans sm6).trans smB
        have sL := same_new nL (.lst (as.map V.ref ++ bs.map V.ref))
        refine q _ L (as ++ bs) (smL.trans sL) (smL.free nL) (fun a ha => ?_) ⟨?_, ?_⟩
        · rcases List.mem_append.mp ha with ha | ha
          · exact (hasA a ha).1
          · exact (smA.trans sm6).free (hasB a ha).1
        · rw [upd_same, List.map_append]
        · exact ((hA6.2.same smB).app hB.2).same sL
theorem rec_all_marks (T : Txt K mg) : ∀ n : Nat, Cal P w K mg base CX0 n "all_marks" ["many", "ones"] (sp_all_marks n)
  | 0 => by
    obtain ⟨fd, F, g⟩ := T.d_all_marks
    have no : ∀ vs H Q E, ¬ sp_all_marks 0 vs H Q E := fun vs H Q E h => by
      obtain ⟨c, m, _, h1, _⟩ := h
      omega
    exact ⟨_, fd, ⟨fun vs H Q E h => absurd h (no vs H Q E), fun A outer s H args us vs Q E _ _ _ _ h => absurd h (no vs H Q E)⟩, g, F.kp, F.bindsN (fun _ _ _ _ _ _ us hl => match us, hl with | [_, _], _ => rfl)⟩
  | n + 1 => step_all_marks T (rec_all_marks T n)
theorem ok_all_marks (T : Txt K mg) : Cal P w K mg base CX0 20 "all_marks" ["many", "ones"] (sp_all_marks 20) := rec_all_marks T 20

end

section
variable {P : Program} {w : World} {K : PySem.W.Frag} {mg : Str → Option Value} {base : Heap}
theorem sc_rings_of : FnScope ["coins", "stair", "found", "seen", "marks", "first", "ring", "setting"] ["coins"] (defScope s_rings_of) := ⟨rfl, rfl, rfl, by decide +kernel, rfl, by decide +kernel, by decide +kernel⟩
def sp_rings_of : Sp := fun vs H Q _ => ∃ n : Nat, vs = [.int n] ∧ 1 ≤ n ∧ n ≤ 36 ∧ NL3 Q H (rings n)
theorem ok_rings_of (T : Txt K mg) : Cal P w K mg base CX0 21 "rings_of" ["coins"] sp_rings_of := by
  have C_all_marks := ok_all_marks (P := P) (w := w) (base := base) T
  have C_must_count := ok_must_count (P := P) (w := w) (base := base) T
  have C_ring_by := ok_ring_by (P := P) (w := w) (base := base) T
  have C_setting_by := ok_setting_by (P := P) (w := w) (base := base) T
  have C_stair_of := ok_stair_of (P := P) (w := w) (base := base) T
  refine cal_mk T.d_rings_of sc_rings_of ?_ (fun _ _ _ _ _ _ us hl => match us, hl with | [_], _ => rfl) (fun f cdv A outer s H vs Q E hr h => ?_)
  · intro vs H Q E h
    obtain ⟨n, rfl, _⟩ := h
    rfl
  obtain ⟨n, rfl, h1, h2, q⟩ := h
  have hu := hu1 hr
  obtain ⟨r1, r2, r3⟩ := rest_spec h1
  have hst := stair_le h1 (b := 8) (by omega) (by omega)
  have hst1 := (stair_spec h1).1
  have hmem : ∀ ms ∈ allM (stair n) (restOf n), Bits ms ∧ ms.length = stair n ∧ ms.sum = (restOf n : Int) := fun ms h => mem_allM.mp h
  have hset : ∀ ms ∈ allM (stair n) (restOf n), IsSet n (ofMarks ms) := fun ms h => ofMarks_set h1 (hmem ms h).1 (hmem ms h).2.1 (hmem ms h).2.2
  have hring : ∀ ms ∈ allM (stair n) (restOf n), ∃ d, d ≤ 14 ∧ Ring (ofMarks ms) d := fun ms h => by
    obtain ⟨b, l, s⟩ := hmem ms h
    obtain ⟨d, hd, hr⟩ := ofMarks_ring b (by omega)
    exact ⟨d, by omega, hr⟩
  have hMl := allM_len (stair n) (restOf n)
  have h2l : 2 ^ stair n ≤ 2 ^ 8 := Nat.pow_le_pow_right (by decide) hst
  refine ⟨_, (pss_cons (ps_expr (pe_callF C_must_count (hr.mono (by decide)) (pa_cons (pv 0) (pa_cons pe_int pa_nil))))
      (pss_cons (ps_set (i := 1) sc_rings_of.nd rfl (Or.inl rfl) (pe_callF C_stair_of (hr.mono (by decide)) (pa_cons (pv 0) pa_nil)))
      (pss_cons (ps_set (i := 2) sc_rings_of.nd rfl (Or.inl rfl) (pe_lst pa_nil))
      (pss_cons (ps_set (i := 3) sc_rings_of.nd rfl (Or.inl rfl) pe_dnewT)
      (pss_cons (ps_for PassesOwn.never rfl (pi_list (pe_callF C_all_marks (hr.mono (by decide)) (pa_cons (pv 1) (pa_cons (pe_op op_sub (pv 0) (pe_op op_fdiv (pe_op op_mul (pv 1) (pe_op op_sub (pv 1) pe_int)) pe_int)) pa_nil)))) (pg_name (i := 4) sc_rings_of.nd rfl (Or.inl rfl))
      (pss_cons (ps_set (i := 5) sc_rings_of.nd rfl (Or.inl rfl) (pe_callF C_setting_by (hr.mono (by decide)) (pa_cons (pv 4) pa_nil)))
      (pss_one (ps_if (pt_cmp (pc_dnotin hu (pe_callTy (T := "tuple") call_tuple_of (by rfl) T.m_tuple (by decide +kernel) (pa_cons (pv 5) pa_nil)) (pv 3)))
      (pss_cons (ps_set (i := 6) sc_rings_of.nd rfl (Or.inl rfl) (pe_callF C_ring_by (hr.mono (by decide)) (pa_cons (pv 5) pa_nil)))
      (pss_cons (ps_for PassesOwn.never rfl (pi_list (pv 6)) (pg_name (i := 7) sc_rings_of.nd rfl (Or.inl rfl))
      (pss_one (ps_dput hu (pv 3) (pe_callTy (T := "tuple") call_tuple_of (by rfl) T.m_tuple (by decide +kernel) (pa_cons (pv 7) pa_nil)) pe_bl rfl)))
      (pss_one (ps_expr (pe_bm PySem.F.plainAttrs_list PySem.F.slot_list_append PySem.F.type_list_append mt_append (pv 2) (pa_cons (pv 6) pa_nil)))))) pss_nil))))
      (pss_one (ps_ret (pv 2)))))))), ?_⟩
  refine ⟨_, rfl, n, 36, rfl, by omega, by omega, _, rfl, n, rfl, h1, by omega, ?_⟩
  unfold rings at q
  generalize hMM : allM (stair n) (restOf n) = MM at *
  have e1 : (n : Int) - (stair n : Int) * ((stair n : Int) - 1) / 2 = (restOf n : Int) := by
    have : (stair n : Int) * ((stair n : Int) - 1) = ((stair n * (stair n - 1) : Nat) : Int) := by
      rw [Int.natCast_mul]
      congr 1
      omega
    rw [this]
    omega
  generalize stair n = S at *
  refine ⟨Nat.zero_le _, fun D nD => fun s ns => ?_⟩
  have s1 := same_new nD (.lst ([] : List V))
  have eD1 : (upd H D (.lst [])) D = some (.lst []) := upd_same
  have nsD : D ≠ s := ne_of_none eD1 ns
  have ns0 : H s = none := s1.free ns
  generalize upd H D (.lst []) = H1 at *
  have s2 := s1.trans (same_new ns (.dT []))
  have eD2 := same_new ns (.dT []) _ _ eD1
  have es2 : (upd H1 s (.dT [])) s = some (.dT []) := upd_same
  generalize upd H1 s (.dT []) = H2 at *
  refine ⟨_, rfl, _, rfl, _, rfl, _, rfl, _, _, rfl, rfl, _, _, rfl, rfl, .inl ⟨by omega, by omega⟩, _, _, rfl, rfl, ⟨by decide, by decide⟩, _, _, rfl, rfl, S, restOf n, congrArg (fun z => [V.int S, V.int z]) e1, by omega, by omega, fun H3 R rs sm3 nR nrs hR => ?_⟩
  rw [hMM] at hR
  obtain ⟨eR, hrs⟩ := hR
  have hrl := hrs.len
  have nRD : R ≠ D := (ne_of_none eD2 nR).symm
  have nRs : R ≠ s := (ne_of_none es2 nR).symm
  have rsD : ∀ a ∈ rs, a ≠ D := fun a ha => (ne_of_none eD2 (nrs a ha)).symm
  have rss : ∀ a ∈ rs, a ≠ s := fun a ha => (ne_of_none es2 (nrs a ha)).symm
  have s3 := s2.trans sm3
  have eD3 := sm3 _ _ eD2
  have es3 := sm3 _ _ es2
  clear s1 s2 eD1 ns eD2 es2 sm3 nR nrs
  let F : Addr → Prop := fun b => (H b = none ∧ b ≠ D) ∧ b ≠ s
  refine ⟨R, rfl, ⟨_, sq eR⟩, for_list (K := K) (a := R) (xs := rs.map V.ref) (fun i σ H' => ∃ (as : List Addr) (kvs : List (List Key × V)) (y4 y5 y6 y7 : Option V), σ = [some (.int n), some (.int S), some (.ref D), some (.ref s), y4, y5, y6, y7] ∧ Same H H' ∧ H' R = some (.lst (rs.map V.ref)) ∧ LLs H' rs MM ∧ H' D = some (.lst (as.map V.ref)) ∧ L3s F H' as (ringsF (MM.take i)) ∧ H' s = some (.dT kvs) ∧ (∀ x, (valV kvs (kT x)).isSome = true ↔ x ∈ (ringsF (MM.take i)).flatten) ∧ kvs.length ≤ 14 * i)
    ⟨[], [], none, none, none, none, rfl, s3, eR, hrs, eD3, trivial, es3, fun x => ⟨fun h => (by cases h), fun h => (by cases h)⟩, Nat.zero_le _⟩ (fun i σ H' _ h => by obtain ⟨_, _, _, _, _, _, _, _, e, _⟩ := h; exact sq e) ?_ ?_⟩
  · intro i x σ H' hx h
    obtain ⟨r, hr, rfl⟩ := get_ref hx
    obtain ⟨as, kvs, y4, y5, y6, y7, rfl, sm, eR, hrs, eD, hL, es, hk, hkl⟩ := h
    obtain ⟨ms, hms, er⟩ := hrs.get hr
    have hil := (List.getElem?_eq_some_iff.mp hms).1
    have hmm : ms ∈ MM := List.mem_of_getElem? hms
    obtain ⟨b, l, sums⟩ := hmem ms hmm
    have hsx := hset ms hmm
    obtain ⟨d, hd, hrg⟩ := hring ms hmm
    have hal := hL.len
    have hfl := ringsF_len MM i
    have hst : ringsF (MM.take (i + 1)) = addRing (ringsF (MM.take i)) ms := by rw [take_snoc hms, ringsF_snoc]
    have hro := ringOf_eq hrg hd
    rw [hst]
    unfold addRing
    refine ⟨_, rfl, r, ms, rfl, er, by omega, fun H4 f sm4 nf ef => ?_⟩
    have hxl := hsx.len
    generalize ofMarks ms = x at *
    generalize hfo : ringsF (MM.take i) = fo at *
    refine ⟨_, rfl, f, _, rfl, .inl ⟨sq ef, fun l nl => ⟨_, rfl, ?_⟩⟩⟩
    have sl := same_new nl (.tup (x.map V.int))
    have el : (upd H4 l (.tup (x.map V.int))) l = some (.tup ((kT x).map kV)) := by
      rw [kT_map]
      exact upd_same
    have sm5 := (sm.trans sm4).trans sl
    have s45 := sm4.trans sl
    have eR5 := s45 _ _ eR
    have hrs5 := hrs.same s45
    have eD5 := s45 _ _ eD
    have hL5 := hL.same s45
    have es5 := s45 _ _ es
    have ef5 := sl _ _ ef
    clear sm4 sl s45 eR hrs eD hL es ef nl er
    generalize upd H4 l (.tup (x.map V.int)) = H5 at *
    refine ⟨s, _, rfl, DGet.t es5 el, _, rfl, ite2 (fun c => ?_) (fun c => ?_)⟩
    · have hno : ¬ x ∈ fo.flatten := fun hm => by
        rw [(hk x).mpr hm] at c
        cases c
      rw [if_neg hno, hro]
      refine ⟨_, rfl, f, x, n, d, rfl, ef5, hsx, by omega, hrg, by omega, fun H6 G gs sm6 nG ngs hG => ?_⟩
      have sm6' := sm5.trans sm6
      have eR6 := sm6 _ _ eR5
      have hrs6 := hrs5.same sm6
      have eD6 := sm6 _ _ eD5
      have hL6 := hL5.same sm6
      have es6 := sm6 _ _ es5
      obtain ⟨eG, hGs⟩ := hG
      have nGD : G ≠ D := (ne_of_none eD5 nG).symm
      have nGs : G ≠ s := (ne_of_none es5 nG).symm
      have nGR : G ≠ R := (ne_of_none eR5 nG).symm
      have gsD : ∀ a ∈ gs, a ≠ D := fun a ha => (ne_of_none eD5 (ngs a ha)).symm
      have gss : ∀ a ∈ gs, a ≠ s := fun a ha => (ne_of_none es5 (ngs a ha)).symm
      have nG0 : H G = none := sm5.free nG
      have ngs0 : ∀ a ∈ gs, H a = none := fun a ha => sm5.free (ngs a ha)
      have hgl := hGs.len
      rw [ringL_len] at hgl
      clear eR5 hrs5 eD5 hL5 es5 nG ngs
      refine ⟨_, rfl, G, rfl, ⟨_, sq eG⟩, for_list (K := K) (a := G) (xs := gs.map V.ref) (fun j σ H' => ∃ (kvs' : List (List Key × V)) (y7 : Option V), σ = [some (.int n), some (.int S), some (.ref D), some (.ref s), some (.ref r), some (.ref f), some (.ref G), y7] ∧ Same H H' ∧ H' R = some (.lst (rs.map V.ref)) ∧ LLs H' rs MM ∧ H' D = some (.lst (as.map V.ref)) ∧ L3s F H' as fo ∧ H' G = some (.lst (gs.map V.ref)) ∧ LLs H' gs (ringL d x) ∧ H' s = some (.dT kvs') ∧ (∀ y, (valV kvs' (kT y)).isSome = true ↔ y ∈ fo.flatten ++ (ringL d x).take j) ∧ kvs'.length ≤ 14 * i + j)
        ⟨kvs, y7, rfl, sm6', eR6, hrs6, eD6, hL6, eG, hGs, es6, fun y => by rw [List.take_zero, List.append_nil]; exact hk y, hkl⟩ (fun j σ H' _ h => by obtain ⟨_, _, _, _, _, _, _, _, e, _⟩ := h; exact sq e) ?_ ?_⟩
      · intro j x' σ H' hx h
        obtain ⟨g, hg, rfl⟩ := get_ref hx
        obtain ⟨kvs', y7, rfl, sm, eR, hrs, eD, hL, eG, hGs, es, hk, hkl⟩ := h
        obtain ⟨z, hz, eg⟩ := hGs.get hg
        have hjl := (List.getElem?_eq_some_iff.mp hz).1
        rw [ringL_len] at hjl
        refine ⟨_, rfl, _, rfl, g, _, rfl, .inl ⟨sq eg, fun l2 nl2 => ?_⟩⟩
        have sl := same_new nl2 (.tup (z.map V.int))
        have el : (upd H' l2 (.tup (z.map V.int))) l2 = some (.tup ((kT z).map kV)) := by
          rw [kT_map]
          exact upd_same
        have sm7 := sm.trans sl
        have eR7 := sl _ _ eR
        have hrs7 := hrs.same sl
        have eD7 := sl _ _ eD
        have hL7 := hL.same sl
        have eG7 := sl _ _ eG
        have hGs7 := hGs.same sl
        have es7 := sl _ _ es
        clear sm sl eR hrs eD hL eG hGs es nl2 eg
        generalize upd H' l2 (.tup (z.map V.int)) = H7 at *
        refine ⟨s, _, rfl, DPut.t es7 el (smallL (by omega)), ?_⟩
        have hpl := length_putK kvs' (kT z) (.bl true)
        refine ⟨_, _, rfl, same_mut sm7 ns0 _, by rw [upd_ne nRs]; exact eR7, hrs7.upd rss, by rw [upd_ne nsD]; exact eD7, hL7.upd (fun a h => h.2), by rw [upd_ne nGs]; exact eG7, hGs7.upd gss, upd_same, fun y => ?_, by omega⟩
        rw [valV_put, take_snoc hz, ← List.append_assoc]
        by_cases e : y = z
        · subst e
          rw [if_pos rfl]
          exact ⟨fun _ => List.mem_append_right _ (List.mem_singleton.mpr rfl), fun _ => rfl⟩
        · rw [if_neg fun h => e (kT_inj h), hk y]
          constructor
          · intro h
            exact List.mem_append_left _ h
          · intro h
            rcases List.mem_append.mp h with h | h
            · exact h
            · exact absurd (List.mem_singleton.mp h) e
      · intro σ H' h
        obtain ⟨kvs', y7, rfl, sm, eR, hrs, eD, hL, eG, hGs, es, hk, hkl⟩ := h
        rw [rlen, hgl] at hk hkl
        rw [List.take_of_length_le (by rw [ringL_len]; exact Nat.le_refl _)] at hk
        refine ⟨_, rfl, .inl ⟨rfl, _, sq eD⟩, _, rfl, D, _, _, rfl, rfl, eD, by rw [rlen]; exact smallL (by omega), ?_⟩
        refine ⟨as ++ [G], kvs', _, _, _, _, rfl, same_mut sm nD _, by rw [upd_ne nRD]; exact eR, hrs.upd rsD, by rw [upd_same, List.map_append] <;> rfl, (hL.upd (fun a h => h.1.2)).app ⟨⟨⟨⟨nG0, nGD⟩, nGs⟩, gs, ⟨by rw [upd_ne nGD]; exact eG, hGs.upd gsD⟩, fun b hb => ⟨⟨ngs0 b hb, gsD b hb⟩, gss b hb⟩⟩, trivial⟩, by rw [upd_ne nsD.symm]; exact es, fun y => ?_, by omega⟩
        rw [hk y, List.flatten_append, List.flatten_cons, List.flatten_nil, List.append_nil]
    · have hyes : x ∈ fo.flatten := by
        by_cases hm : x ∈ fo.flatten
        · exact hm
        · refine absurd ?_ c
          cases hv : valV kvs (kT x) with
          | none => rfl
          | some v => exact absurd ((hk x).mp (by rw [hv]; rfl)) hm
      rw [if_pos hyes]
      exact ⟨as, kvs, _, _, _, _, rfl, sm5, eR5, hrs5, eD5, hL5, es5, hk, by omega⟩
  · intro σ H' h
    obtain ⟨as, kvs, y4, y5, y6, y7, rfl, sm, eR, hrs, eD, hL, es, hk, hkl⟩ := h
    rw [rlen, hrl, List.take_length] at hL
    exact ⟨_, rfl, q H' D as sm nD eD (hL.mono fun a h => h.1)⟩

end

section
variable {P : Program} {w : World} {K : PySem.W.Frag} {mg : Str → Option Value} {base : Heap}
theorem sc_law_cell : FnScope ["script", "k", "base"] ["script", "k"] (defScope s_law_cell) := ⟨rfl, rfl, rfl, by decide +kernel, rfl, by decide +kernel, by decide +kernel⟩
/-- any number may stand in a cell -/
def sp_law_cell (K : PySem.W.Frag) : Sp := fun vs H Q _ => ∃ (a : Addr) (ns : List Int) (k : Int), vs = [.ref a, .int k] ∧ SL K H a ns ∧ 0 ≤ k ∧ ∀ z, Q (.int z) H
theorem ok_law_cell (T : Txt K mg) : Cal P w K mg base CX0 1 "_law_cell" ["script", "k"] (sp_law_cell K) := by
  refine cal_mk T.d_law_cell sc_law_cell ?_ (fun _ _ _ _ _ _ us hl => match us, hl with | [_, _], _ => rfl) (fun f cdv A outer s H vs Q E hr h => ?_)
  · intro vs H Q E h
    obtain ⟨a, ns, k, rfl, _⟩ := h
    rfl
  obtain ⟨a, ns, k, rfl, hS, h0, q⟩ := h
  refine ⟨_, (pss_cons (ps_if (pt_cmpR op_lt (pv 1) (pe_callB call_len_seq (by rfl) T.m_len PySem.boot_len (pa_cons (pv 0) pa_nil)) (nomark _))
      (pss_one (ps_ret (pe_ix ix_list (pv 0) (pv 1) (fun _ _ => rfl)))) pss_nil)
      (pss_cons (ps_set (i := 2) sc_law_cell.nd rfl (Or.inl rfl) pe_int)
      (pss_cons (ps_if (pt_cmpR op_gt (pe_callB call_len_seq (by rfl) T.m_len PySem.boot_len (pa_cons (pv 0) pa_nil)) pe_int (nomark _))
      (pss_one (ps_set (i := 2) sc_law_cell.nd rfl (Or.inl rfl) (pe_ix ix_list (pv 0) pe_int (fun _ _ => rfl)))) pss_nil)
      (pss_one (ps_ret (pe_op op_mod (pe_op op_add (pe_op op_mul (pe_op op_mod (pv 2) pe_int) pe_int) (pe_op op_mul (pv 1) pe_int)) pe_int)))))), ?_⟩
  refine ⟨_, rfl, _, rfl, a, _, rfl, .inl hS, _, _, rfl, rfl, _, rfl, ite2 (fun c => ?_) (fun c => ?_)⟩
  · have c' : k < ((ns.map V.int).length : Int) := of_decide_eq_true c
    rw [List.length_map] at c'
    obtain ⟨j, rfl⟩ : ∃ j : Nat, k = j := ⟨k.toNat, by omega⟩
    have hj : j < ns.length := by omega
    exact ⟨_, rfl, _, rfl, a, _, _, .int ns[j], rfl, rfl, hS, atI_nat (int_get (List.getElem?_eq_getElem hj)), q _⟩
  · refine ⟨_, rfl, a, _, rfl, .inl hS, _, _, rfl, rfl, _, rfl, ite2 (fun c => ?_) (fun c => ?_)⟩
    · have c' : (0 : Int) < ((ns.map V.int).length : Int) := of_decide_eq_true c
      rw [List.length_map] at c'
      have hj : 0 < ns.length := by omega
      refine ⟨_, rfl, a, _, 0, .int ns[0], rfl, rfl, hS, atI_nat (j := 0) (int_get (List.getElem?_eq_getElem hj)), ?_⟩
      exact ⟨_, rfl, _, _, rfl, rfl, (by show (0 : Int) < 65521; decide), _, _, rfl, rfl, .inr ⟨by decide, by decide⟩, _, rfl, _, _, rfl, rfl, .inr ⟨by decide, by decide⟩, _, _, rfl, rfl, _, _, rfl, rfl, (by show (0 : Int) < 65521; decide), q _⟩
    · exact ⟨_, rfl, _, _, rfl, rfl, (by show (0 : Int) < 65521; decide), _, _, rfl, rfl, .inr ⟨by decide, by decide⟩, _, rfl, _, _, rfl, rfl, .inr ⟨by decide, by decide⟩, _, _, rfl, rfl, _, _, rfl, rfl, (by show (0 : Int) < 65521; decide), q _⟩

end

section
variable {P : Program} {w : World} {K : PySem.W.Frag} {mg : Str → Option Value} {base : Heap}
theorem sc_law_stair : FnScope ["coins", "stair"] ["coins"] (defScope s_law_stair) := ⟨rfl, rfl, rfl, by decide +kernel, rfl, by decide +kernel, by decide +kernel⟩
def sp_law_stair : Sp := fun vs H Q _ => ∃ n : Nat, vs = [.int n] ∧ 1 ≤ n ∧ n ≤ 100000 ∧ Q (.int (stair n)) H
theorem ok_law_stair (T : Txt K mg) : Cal P w K mg base CX0 1 "_law_stair" ["coins"] sp_law_stair := by
  refine cal_mk T.d_law_stair sc_law_stair ?_ (fun _ _ _ _ _ _ us hl => match us, hl with | [_], _ => rfl) (fun f cdv A outer s H vs Q E hr h => ?_)
  · intro vs H Q E h
    obtain ⟨n, rfl, _⟩ := h
    rfl
  obtain ⟨n, rfl, h1, h2, q⟩ := h
  refine ⟨_, (pss_cons (ps_set (i := 1) sc_law_stair.nd rfl (Or.inl rfl) pe_int)
      (pss_cons (ps_while PassesOwn.never (pt_cmpR op_lt (pe_op op_mul (pv 1) (pe_op op_add (pv 1) pe_int)) (pe_op op_mul pe_int (pv 0)) (nomark _))
      (pss_one (ps_set (i := 1) sc_law_stair.nd rfl (Or.inl rfl) (pe_op op_add (pv 1) pe_int))))
      (pss_one (ps_ret (pv 1))))), ?_⟩
  refine ⟨fun m σ H' => ∃ s : Nat, σ = [some (.int n), some (.int s)] ∧ H' = H ∧ m = 2 * n + 2 - s ∧ 1 ≤ s ∧ (s - 1) * s < 2 * n, ⟨_, 1, rfl, rfl, rfl, Nat.le_refl _, by omega⟩, fun m σ H' hW => ?_⟩
  obtain ⟨s, rfl, rfl, rfl, g1, g2⟩ := hW
  have g3 : s ≤ 2 * n + 1 := by
    have := Nat.mul_le_mul_left (s - 1) g1
    omega
  refine ⟨_, rfl, _, rfl, _, _, rfl, rfl, _, _, rfl, rfl, .inl ⟨by omega, by omega⟩, _, rfl, _, _, rfl, rfl, .inl ⟨by decide, by decide⟩, _, _, rfl, rfl, _, rfl, ite2 (fun c => ?_) (fun c => ?_)⟩
  · have c' : (s : Int) * ((s : Int) + 1) < 2 * (n : Int) := of_decide_eq_true c
    have c2 : s * (s + 1) < 2 * n := by exact_mod_cast c'
    refine ⟨fun σ' H2 => ∃ s' : Nat, s' = s + 1 ∧ σ' = [some (.int n), some (.int s')] ∧ H2 = H', fun σ' H2 h => ?_, ?_⟩
    · obtain ⟨s', rfl, e1, e2⟩ := h
      exact ⟨2 * n + 2 - (s + 1), by omega, s + 1, e1, e2, rfl, by omega, by rw [Nat.add_sub_cancel]; exact c2⟩
    · exact ⟨_, rfl, _, _, rfl, rfl, s + 1, rfl, rfl, rfl⟩
  · have c' : ¬ (s : Int) * ((s : Int) + 1) < 2 * (n : Int) := fun h => c (decide_eq_true h)
    have c2 : 2 * n ≤ s * (s + 1) := by
      have : ¬ s * (s + 1) < 2 * n := fun h => c' (by exact_mod_cast h)
      omega
    rw [← stair_uniq h1 g1 g2 c2] at q
    exact ⟨_, rfl, q⟩

end

section
variable {P : Program} {w : World} {K : PySem.W.Frag} {mg : Str → Option Value} {base : Heap}
theorem sc_law_by_marks : FnScope ["marks", "piles", "k", "pile"] ["marks"] (defScope s_law_by_marks) := ⟨rfl, rfl, rfl, by decide +kernel, rfl, by decide +kernel, by decide +kernel⟩
def sp_law_by_marks : Sp := fun vs H Q _ => ∃ (a : Addr) (ms : List Int), vs = [.ref a] ∧ IL H a ms ∧ ms.length ≤ 1000 ∧ NL Q H (ofMarks ms)
theorem ok_law_by_marks (T : Txt K mg) : Cal P w K mg base CX0 1 "_law_by_marks" ["marks"] sp_law_by_marks := by
  refine cal_mk T.d_law_by_marks sc_law_by_marks ?_ (fun _ _ _ _ _ _ us hl => match us, hl with | [_], _ => rfl) (fun f cdv A outer s H vs Q E hr h => ?_)
  · intro vs H Q E h
    obtain ⟨a, ms, rfl, _⟩ := h
    rfl
  obtain ⟨a, ms, rfl, hS, hl, q⟩ := h
  refine ⟨_, (pss_cons (ps_setLc (i := 1) (own := [("k", 2)]) (g := gName 2) rfl sc_law_by_marks.nd rfl rfl (sw_true rfl rfl rfl (by decide +kernel)) (pi_range1 (by rfl) T.m_range (pa_cons (pe_callB call_len_seq (by rfl) T.m_len PySem.boot_len (pa_cons (pv 0) pa_nil)) pa_nil)) (blkOk_by (own := [("k", 2)]) (N := ["marks", "piles", "k", "pile"]) (sc := defScope s_law_by_marks) (by decide +kernel)) (fun _ _ _ _ _ => pg_name (i := 2) sc_law_by_marks.nd rfl (Or.inl rfl)) (fun _ _ _ _ _ => pts_nil) (fun _ _ _ _ _ => (pe_op op_add (pe_op op_sub (pe_op op_sub (pe_callB (call_len_seqK K) (by rfl) T.m_len PySem.boot_len (pa_cons (pv 0) pa_nil)) pe_int) (pv 2)) (pe_ix (ix_listK K) (pv 0) (pv 2) (fun _ _ => rfl)))))
      (pss_one (ps_ret (pe_lc (own := [("pile", 3)]) (g := gName 3) rfl sc_law_by_marks.nd (pi_list (pv 1)) (blkOk_by (own := [("pile", 3)]) (N := ["marks", "piles", "k", "pile"]) (sc := defScope s_law_by_marks) (by decide +kernel)) (fun _ _ _ _ _ => pg_name (i := 3) sc_law_by_marks.nd rfl (Or.inl rfl)) (fun _ _ _ _ _ => (pts_one (pt_cmpR op_gt (pv 3) pe_int (nomark _)))) (fun _ _ _ _ _ => (pv 3)))))), ?_⟩
  refine ⟨_, rfl, a, _, rfl, .inl (sq hS), _, rfl, by rw [nlen]; omega, by rw [nlen]; omega, fun D nD => lc_range (lo := 0) (n := ((ms.map V.int).length : Int).toNat) (fun i H' => Same H H' ∧ IL H' D ((mk ms).take i)) ⟨same_new nD _, upd_same⟩ ?_ ?_⟩
  · intro i H' hi h
    obtain ⟨sm, eD⟩ := h
    rw [nlen] at hi
    have hi : i < ms.length := by omega
    refine ⟨rfl, _, rfl, a, _, rfl, .inl (sq (sm _ _ hS)), _, _, rfl, rfl, _, rfl, _, _, rfl, rfl, _, rfl, _, rfl, a, _, _, .int ms[i], rfl, rfl, sq (sm _ _ hS), at_of (j := i) (by omega) (int_get (List.getElem?_eq_getElem hi)), _, _, rfl, rfl, _, eD, ?_, same_mut sm nD _, ?_⟩
    · rw [nlen, List.length_take, mk_length]
      exact smallL (by omega)
    · have g := mk_get (List.getElem?_eq_getElem hi)
      show upd _ _ _ _ = _
      rw [upd_same, take_snoc g, List.map_append, nlen]
      congr 4
      simp
  · intro H1 h
    obtain ⟨sm, eD⟩ := h
    rw [nlen, Int.toNat_natCast, ← mk_length, List.take_length] at eD
    refine ⟨_, rfl, D, rfl, ⟨_, sq eD⟩, fun G nG => lc_list (K := K) (a := D) (xs := (mk ms).map V.int) (fun i H' => Same H1 H' ∧ IL H' G (((mk ms).take i).filter fun z => decide (z > 0))) ⟨same_new nG _, upd_same⟩ (fun i H' _ h => sq (h.1 _ _ eD)) ?_ ?_⟩
    · intro i x H' hx h
      obtain ⟨z, hz, rfl⟩ := get_int hx
      obtain ⟨sm2, eG⟩ := h
      refine ⟨rfl, _, rfl, _, _, rfl, rfl, _, rfl, ?_⟩
      rw [take_snoc hz, List.filter_append]
      refine ite2 (fun c => ?_) (fun c => ?_)
      · have c' : z > 0 := of_decide_eq_true c
        refine ⟨_, rfl, _, eG, ?_, same_mut sm2 nG _, ?_⟩
        · rw [nlen]
          have := List.length_filter_le (fun z => decide (z > 0)) ((mk ms).take i)
          rw [List.length_take, mk_length] at this
          exact smallL (by omega)
        · show upd _ _ _ _ = _
          rw [upd_same, List.map_append, List.filter_cons, if_pos (decide_eq_true c')] <;> rfl
      · have c' : ¬ z > 0 := fun h => c (decide_eq_true h)
        refine ⟨sm2, ?_⟩
        rw [List.filter_cons, if_neg (by simp only [decide_eq_true_eq]; exact c'), List.filter_nil, List.append_nil]
        exact eG
    · intro H2 h
      obtain ⟨sm2, eG⟩ := h
      rw [nlen, List.take_length] at eG
      exact q H2 G (sm.trans sm2) (sm.free nG) eG

end

section
variable {P : Program} {w : World} {K : PySem.W.Frag} {mg : Str → Option Value} {base : Heap}
theorem sc_law_ints : FnScope ["found", "due", "k"] ["found", "due"] (defScope s_law_ints) := ⟨rfl, rfl, rfl, by decide +kernel, rfl, by decide +kernel, by decide +kernel⟩
def sp_law_ints : Sp := fun vs H Q _ => ∃ (f d : Addr) (xs ns : List Int), vs = [.ref f, .ref d] ∧ IL H f xs ∧ IL H d ns ∧ ns.length ≤ 100000 ∧ Q (.bl (decide (xs = ns))) H
theorem ok_law_ints (T : Txt K mg) : Cal P w K mg base CX0 1 "_law_ints" ["found", "due"] sp_law_ints := by
  refine cal_mk T.d_law_ints sc_law_ints ?_ (fun _ _ _ _ _ _ us hl => match us, hl with | [_, _], _ => rfl) (fun f cdv A outer s H vs Q E hr h => ?_)
  · intro vs H Q E h
    obtain ⟨f, d, xs, ns, rfl, _⟩ := h
    rfl
  obtain ⟨f, d, xs, ns, rfl, hF, hD, hl, q⟩ := h
  refine ⟨_, (pss_cons (ps_if (PW.pt (pw_or (pt_not (pt_val (pe_callB call_isi (by rfl) T.m_isinstance (by decide +kernel) (pa_cons (pv 0) (pa_cons (pe_bltn (v := .ty "list") (by rfl) T.m_list (by decide +kernel) rfl) pa_nil))))) (pw_or1 (pt_cmpR op_ne (pe_callB call_len_seq (by rfl) T.m_len PySem.boot_len (pa_cons (pv 0) pa_nil)) (pe_callB call_len_seq (by rfl) T.m_len PySem.boot_len (pa_cons (pv 1) pa_nil)) (nomark _)))))
      (pss_one (ps_ret pe_bl)) pss_nil)
      (pss_cons (ps_for PassesOwn.never rfl (pi_range1 (by rfl) T.m_range (pa_cons (pe_callB call_len_seq (by rfl) T.m_len PySem.boot_len (pa_cons (pv 1) pa_nil)) pa_nil)) (pg_name (i := 2) sc_law_ints.nd rfl (Or.inl rfl))
      (pss_one (ps_if (PW.pt (pw_or (pt_not (pt_val (pe_callB call_isi (by rfl) T.m_isinstance (by decide +kernel) (pa_cons (pe_ix ix_list (pv 0) (pv 2) (fun _ _ => rfl)) (pa_cons (pe_bltn (v := .ty "int") (by rfl) T.m_int (by decide +kernel) rfl) pa_nil))))) (pw_or (pt_val (pe_callB call_isi (by rfl) T.m_isinstance (by decide +kernel) (pa_cons (pe_ix ix_list (pv 0) (pv 2) (fun _ _ => rfl)) (pa_cons (pe_bltn (v := .ty "bool") (by rfl) T.m_bool (by decide +kernel) rfl) pa_nil)))) (pw_or1 (pt_cmpR op_ne (pe_ix ix_list (pv 0) (pv 2) (fun _ _ => rfl)) (pe_ix ix_list (pv 1) (pv 2) (fun _ _ => rfl)) (nomark _))))))
      (pss_one (ps_ret pe_bl)) pss_nil)))
      (pss_one (ps_ret pe_bl)))), ?_⟩
  -- not a list, or of another length
  refine ⟨_, rfl, _, .ty "list", .type "list", .type "list", true, rfl, ClsV.ty _, .base (.lst hF), kit_ty (by decide +kernel), true, rfl, ?_⟩
  refine ⟨_, rfl, f, _, rfl, .inl (sq hF), _, rfl, d, _, rfl, .inl (sq hD), rfl, _, rfl, ?_⟩
  rw [nlen, nlen]
  refine ite2 (fun c => ?_) (fun c => ?_)
  · have c' : ¬ xs = ns := fun e => by
      rw [e] at c
      simp at c
    rw [decide_eq_false c'] at q
    exact q
  · have hlen : xs.length = ns.length := by
      have : ¬ ¬ (V.int (xs.length : Int) = V.int (ns.length : Int)) := fun h => c (by rw [decide_eq_false h] <;> rfl)
      have := V.int.inj (Decidable.not_not.mp this)
      omega
    refine ⟨_, rfl, d, _, rfl, .inl (sq hD), _, rfl, by rw [nlen]; omega, by rw [nlen]; omega, for_range (lo := 0) (n := ((ns.map V.int).length : Int).toNat) (fun i σ H' => ∃ y, σ = [some (.ref f), some (.ref d), y] ∧ H' = H ∧ xs.take i = ns.take i) ⟨none, rfl, rfl, rfl⟩ ?_ ?_⟩
    · intro i σ H' hi h
      obtain ⟨y, rfl, rfl, ht⟩ := h
      rw [nlen] at hi
      have hi : i < ns.length := by omega
      have gx : xs[i]? = some xs[i] := List.getElem?_eq_getElem (by omega)
      have gn : ns[i]? = some ns[i] := List.getElem?_eq_getElem hi
      have ax : atI (xs.map V.int) (0 + (i : Int)) = some (.int xs[i]) := at_of (j := i) (by omega) (int_get gx)
      have an : atI (ns.map V.int) (0 + (i : Int)) = some (.int ns[i]) := at_of (j := i) (by omega) (int_get gn)
      refine ⟨_, rfl, _, rfl, f, _, _, .int xs[i], rfl, rfl, sq hF, ax, .int xs[i], .ty "int", .type "int", .type "int", true, rfl, ClsV.ty _, .base (.int _), kit_ty (by decide +kernel), true, rfl, ?_⟩
      refine ⟨_, rfl, _, rfl, f, _, _, .int xs[i], rfl, rfl, sq hF, ax, .int xs[i], .ty "bool", .type "int", .type "bool", false, rfl, ClsV.ty _, .base (.int _), kit_ty (by decide +kernel), false, rfl, ?_⟩
      refine ⟨_, rfl, _, rfl, f, _, _, .int xs[i], rfl, rfl, sq hF, ax, _, rfl, _, rfl, d, _, _, .int ns[i], rfl, rfl, sq hD, an, rfl, _, rfl, ite2 (fun c => ?_) (fun c => ?_)⟩
      · have c' : ¬ xs = ns := fun e => by
          subst e
          simp at c
        rw [decide_eq_false c'] at q
        exact q
      · have e : xs[i] = ns[i] := by
          have : ¬ ¬ (V.int xs[i] = V.int ns[i]) := fun h => c (by rw [decide_eq_false h] <;> rfl)
          exact V.int.inj (Decidable.not_not.mp this)
        exact ⟨_, rfl, rfl, by rw [take_snoc gx, take_snoc gn, ht, e]⟩
    · intro σ H' h
      obtain ⟨y, rfl, rfl, ht⟩ := h
      rw [nlen, Int.toNat_natCast, ← hlen, List.take_length, hlen, List.take_length] at ht
      rw [decide_eq_true ht] at q
      exact q

end

section
variable {P : Program} {w : World} {K : PySem.W.Frag} {mg : Str → Option Value} {base : Heap}
theorem sc_law_lists_like : FnScope ["found", "due", "one", "other"] ["found", "due"] (defScope s_law_lists_like) := ⟨rfl, rfl, rfl, by decide +kernel, rfl, by decide +kernel, by decide +kernel⟩
def sp_law_lists_like : Sp := fun vs H Q _ => ∃ (f d : Addr) (fs ds : List Addr) (xs ns : List (List Int)), vs = [.ref f, .ref d] ∧ LL H f fs xs ∧ LL H d ds ns ∧ (∀ n ∈ ns, n.length ≤ 1000) ∧ ∀ H', Same H H' → Q (.bl (decide (xs = ns))) H'
theorem ok_law_lists_like (T : Txt K mg) : Cal P w K mg base CX0 2 "_law_lists_like" ["found", "due"] sp_law_lists_like := by
  have C_law_ints := ok_law_ints (P := P) (w := w) (base := base) T
  refine cal_mk T.d_law_lists_like sc_law_lists_like ?_ (fun _ _ _ _ _ _ us hl => match us, hl with | [_, _], _ => rfl) (fun f cdv A outer s H vs Q E hr h => ?_)
  · intro vs H Q E h
    obtain ⟨f, d, fs, ds, xs, ns, rfl, _⟩ := h
    rfl
  obtain ⟨f, d, fs, ds, xs, ns, rfl, ⟨hF, hfs⟩, ⟨hD, hds⟩, hl, q⟩ := h
  have l1 := hfs.len
  have l2 := hds.len
  refine ⟨_, (pss_cons (ps_if (PW.pt (pw_or (pt_not (pt_val (pe_callB call_isi (by rfl) T.m_isinstance (by decide +kernel) (pa_cons (pv 0) (pa_cons (pe_bltn (v := .ty "list") (by rfl) T.m_list (by decide +kernel) rfl) pa_nil))))) (pw_or1 (pt_cmpR op_ne (pe_callB call_len_seq (by rfl) T.m_len PySem.boot_len (pa_cons (pv 0) pa_nil)) (pe_callB call_len_seq (by rfl) T.m_len PySem.boot_len (pa_cons (pv 1) pa_nil)) (nomark _)))))
      (pss_one (ps_ret pe_bl)) pss_nil)
      (pss_cons (ps_for PassesOwn.never rfl (pi_zip (by rfl) T.m_zip (pa_cons (pv 0) (pa_cons (pv 1) pa_nil))) (pg_tup rfl (pgs_cons (pg_name (i := 2) sc_law_lists_like.nd rfl (Or.inl rfl)) (pgs_cons (pg_name (i := 3) sc_law_lists_like.nd rfl (Or.inl rfl)) pgs_nil)))
      (pss_one (ps_if (pt_not (pt_val (pe_callF C_law_ints (hr.mono (by decide)) (pa_cons (pv 2) (pa_cons (pv 3) pa_nil)))))
      (pss_one (ps_ret pe_bl)) pss_nil)))
      (pss_one (ps_ret pe_bl)))), ?_⟩
  refine ⟨_, rfl, _, .ty "list", .type "list", .type "list", true, rfl, ClsV.ty _, .base (.lst hF), kit_ty (by decide +kernel), true, rfl, ?_⟩
  refine ⟨_, rfl, f, _, rfl, .inl (sq hF), _, rfl, d, _, rfl, .inl (sq hD), rfl, _, rfl, ite2 (fun c => ?_) (fun c => ?_)⟩
  · have c' : ¬ xs = ns := fun e => by
      rw [rlen, rlen, l1, l2, e] at c
      simp at c
    have := q H (Same.refl H)
    rw [decide_eq_false c'] at this
    exact this
  · have hlen : fs.length = ds.length := by
      have : ¬ ¬ (V.int ((fs.map V.ref).length : Int) = V.int ((ds.map V.ref).length : Int)) := fun h => c (by rw [decide_eq_false h] <;> rfl)
      have := V.int.inj (Decidable.not_not.mp this)
      rw [rlen, rlen] at this
      omega
    refine ⟨_, rfl, _, rfl, f, d, _, _, rfl, sq hF, sq hD, RZ.for_zipL (K := K) (xs := fs.map V.ref) (ys := ds.map V.ref) (by rw [rlen, rlen, hlen]) (fun i σ H' => ∃ y1 y2, σ = [some (.ref f), some (.ref d), y1, y2] ∧ Same H H' ∧ xs.take i = ns.take i)
      ⟨none, none, rfl, Same.refl H, rfl⟩ (fun i σ H' h => by obtain ⟨_, _, _, sm, _⟩ := h; exact ⟨sq (sm _ _ hF), sq (sm _ _ hD)⟩) ?_ ?_⟩
    · intro i x y Tp σ H' hx hy h nT
      obtain ⟨y1, y2, rfl, sm, ht⟩ := h
      obtain ⟨fa, hfa, rfl⟩ := get_ref hx
      obtain ⟨da, hda, rfl⟩ := get_ref hy
      have sT := same_new nT (.tup [V.ref fa, V.ref da])
      obtain ⟨m, hm, efa⟩ := hfs.get hfa
      obtain ⟨n, hn, eda⟩ := hds.get hda
      refine ⟨Tp, [.ref fa, .ref da], rfl, .inl (.inl upd_same), rfl, .ref fa, [.ref da], rfl, .ref da, [], rfl, rfl, ?_⟩
      refine ⟨_, rfl, _, rfl, fa, da, m, n, rfl, sT _ _ (sm _ _ efa), sT _ _ (sm _ _ eda), by have := hl n (List.mem_of_getElem? hn); omega, _, rfl, ?_⟩
      refine ite2 (fun c => ?_) (fun c => ?_)
      · have c' : ¬ xs = ns := fun e => by
          subst e
          rw [hm] at hn
          obtain rfl := Option.some.inj hn
          simp at c
        have := q _ (sm.trans sT)
        rw [decide_eq_false c'] at this
        exact this
      · have e : m = n := by
          by_cases e : m = n
          · exact e
          · exact absurd (by rw [decide_eq_false e] <;> rfl) c
        exact ⟨_, _, rfl, sm.trans sT, by rw [take_snoc hm, take_snoc hn, ht, e]⟩
    · intro σ H' h
      obtain ⟨y1, y2, rfl, sm, ht⟩ := h
      have e : xs = ns := by
        rw [rlen] at ht
        rwa [List.take_of_length_le (by omega), List.take_of_length_le (by omega)] at ht
      have := q H' sm
      rw [decide_eq_true e] at this
      exact this

end

section
variable {P : Program} {w : World} {K : PySem.W.Frag} {mg : Str → Option Value} {base : Heap}
theorem sc_law_whole : FnScope ["found"] ["found"] (defScope s_law_whole) := ⟨rfl, rfl, rfl, by decide +kernel, rfl, by decide +kernel, by decide +kernel⟩
def sp_law_whole : Sp := fun vs H Q _ => ∃ z : Int, vs = [.int z] ∧ Q (.bl true) H
theorem ok_law_whole (T : Txt K mg) : Cal P w K mg base CX0 1 "_law_whole" ["found"] sp_law_whole := by
  refine cal_mk T.d_law_whole sc_law_whole ?_ (fun _ _ _ _ _ _ us hl => match us, hl with | [_], _ => rfl) (fun f cdv A outer s H vs Q E hr h => ?_)
  · intro vs H Q E h
    obtain ⟨z, rfl, _⟩ := h
    rfl
  obtain ⟨z, rfl, q⟩ := h
  refine ⟨_, (pss_one (ps_ret (pe_and (pe_callB call_isi (by rfl) T.m_isinstance (by decide +kernel) (pa_cons (pv 0) (pa_cons (pe_bltn (v := .ty "int") (by rfl) T.m_int (by decide +kernel) rfl) pa_nil))) (pe_one (pe_not (pe_callB call_isi (by rfl) T.m_isinstance (by decide +kernel) (pa_cons (pv 0) (pa_cons (pe_bltn (v := .ty "bool") (by rfl) T.m_bool (by decide +kernel) rfl) pa_nil)))))))), ?_⟩
  refine ⟨_, rfl, .int z, .ty "int", .type "int", .type "int", true, rfl, ClsV.ty _, .base (.int _), kit_ty (by decide +kernel), true, rfl, ?_⟩
  exact ⟨_, rfl, .int z, .ty "bool", .type "int", .type "bool", false, rfl, ClsV.ty _, .base (.int _), kit_ty (by decide +kernel), false, rfl, q⟩

end

/-! ### the law -/
def spLaw (K : PySem.W.Frag) : Sp := fun vs H Q _ => ∃ (a : Addr) (ns : List Int), vs = [.ref a] ∧ SL K H a ns ∧ ns.length ≤ 63 ∧ ∀ H', Q (.bl true) H'
theorem nat_of {z : Int} {m : Int} (h : 0 < m) : ∃ n : Nat, 1 + z % m = (n : Int) ∧ 1 ≤ n ∧ (n : Int) ≤ m := by
  have h1 := Int.emod_nonneg z (show m ≠ 0 by omega)
  have h2 := Int.emod_lt_of_pos z h
  exact ⟨(1 + z % m).toNat, by omega, by omega, by omega⟩

section
variable {P : Program} {w : World} {K : PySem.W.Frag} {mg : Str → Option Value} {base : Heap}
theorem sc_law_all_marks : FnScope ["many", "ones", "found", "rest"] ["many", "ones"] (defScope s_law_all_marks) := ⟨rfl, rfl, rfl, by decide +kernel, rfl, by decide +kernel, by decide +kernel⟩
def sp_law_all_marks (n : Nat) : Sp := fun vs H Q _ => ∃ (m : Nat) (o : Int), vs = [.int m, .int o] ∧ m < n ∧ m ≤ 12 ∧ NLL Q H (allM m o)
theorem step_law_all_marks (T : Txt K mg) {n : Nat} (C_law_all_marks : Cal P w K mg base CX0 n "_law_all_marks" ["many", "ones"] (sp_law_all_marks n)) : Cal P w K mg base CX0 (n + 1) "_law_all_marks" ["many", "ones"] (sp_law_all_marks (n + 1)) := by
  refine cal_mk T.d_law_all_marks sc_law_all_marks ?_ (fun _ _ _ _ _ _ us hl => match us, hl with | [_, _], _ => rfl) (fun f cdv A outer s H vs Q E hr h => ?_)
  · intro vs H Q E h
    obtain ⟨m, o, rfl, _⟩ := h
    rfl
  obtain ⟨m, o, rfl, h1, h2, q⟩ := h
  refine ⟨_, (pss_cons (ps_if (PW.pt (pw_or (pt_cmpR op_lt (pv 1) pe_int (nomark _)) (pw_or1 (pt_cmpR op_gt (pv 1) (pv 0) (nomark _)))))
      (pss_one (ps_ret (pe_lst pa_nil))) pss_nil)
      (pss_cons (ps_if (pt_cmpR op_eq (pv 0) pe_int (nomark _))
      (pss_one (ps_ret (pe_lst (pa_cons (pe_lst pa_nil) pa_nil)))) pss_nil)
      (pss_cons (ps_setLc (i := 2) (own := [("rest", 3)]) (g := gName 3) rfl sc_law_all_marks.nd rfl rfl (sw_true rfl rfl rfl (by decide +kernel)) (pi_list (pe_callF C_law_all_marks hr (pa_cons (pe_op op_sub (pv 0) pe_int) (pa_cons (pe_op op_sub (pv 1) pe_int) pa_nil)))) (blkOk_by (own := [("rest", 3)]) (N := ["many", "ones", "found", "rest"]) (sc := defScope s_law_all_marks) (by decide +kernel)) (fun _ _ _ _ _ => pg_name (i := 3) sc_law_all_marks.nd rfl (Or.inl rfl)) (fun _ _ _ _ _ => pts_nil) (fun _ _ _ _ _ => (pe_op op_cat (pe_lst (pa_cons pe_int pa_nil)) (pv 3))))
      (pss_one (ps_ret (pe_op op_cat (pv 2) (pe_lc (own := [("rest", 3)]) (g := gName 3) rfl sc_law_all_marks.nd (pi_list (pe_callF C_law_all_marks hr (pa_cons (pe_op op_sub (pv 0) pe_int) (pa_cons (pv 1) pa_nil)))) (blkOk_by (own := [("rest", 3)]) (N := ["many", "ones", "found", "rest"]) (sc := defScope s_law_all_marks) (by decide +kernel)) (fun _ _ _ _ _ => pg_name (i := 3) sc_law_all_marks.nd rfl (Or.inl rfl)) (fun _ _ _ _ _ => pts_nil) (fun _ _ _ _ _ => (pe_op op_cat (pe_lst (pa_cons pe_int pa_nil)) (pv 3)))))))))), ?_⟩
  have none0 : ∀ H', Same H H' → ∀ p, H' p = none → NLL Q H [] → Q (.ref p) (upd H' p (.lst [])) := fun H' sm p np q => q _ p [] (sm.trans (same_new np _)) (sm.free np) (fun a ha => by cases ha) ⟨upd_same, trivial⟩
  refine ⟨_, rfl, _, _, rfl, rfl, _, rfl, ite2 (fun c => ?_) (fun c => ⟨_, rfl, _, rfl, _, _, rfl, rfl, _, rfl, ite2 (fun d => ?_) (fun d => ?_)⟩)⟩
  · have c' : o < 0 := of_decide_eq_true c
    have e : allM m o = [] := by
      cases m <;> (unfold allM; rw [if_pos c'])
    rw [e] at q
    exact ⟨Nat.zero_le _, fun p np => none0 H (Same.refl H) p np q⟩
  · have c' : ¬ o < 0 := fun h => c (decide_eq_true h)
    have d' : (m : Int) < o := of_decide_eq_true d
    have e : allM m o = [] := by
      cases m with
      | zero => unfold allM; rw [if_neg c', if_pos (show o > 0 by omega)]
      | succ k => unfold allM; rw [if_neg c', if_pos d']
    rw [e] at q
    exact ⟨Nat.zero_le _, fun p np => none0 H (Same.refl H) p np q⟩
  have c' : ¬ o < 0 := fun h => c (decide_eq_true h)
  have d' : ¬ (m : Int) < o := fun h => d (decide_eq_true h)
  refine ⟨_, rfl, rfl, _, rfl, ite2 (fun c => ?_) (fun c => ?_)⟩
  · have c2 := V.int.inj (of_decide_eq_true c)
    obtain rfl : m = 0 := by omega
    have e : allM 0 o = [[]] := by
      unfold allM
      rw [if_neg c', if_neg (by omega)]
    rw [e] at q
    refine ⟨Nat.zero_le _, fun p1 n1 => ⟨(by show 1 ≤ sizeLine; decide), fun p2 n2 => ?_⟩⟩
    have s1 := same_new n1 (.lst ([] : List V))
    have s2 := same_new n2 (.lst [V.ref p1])
    exact q _ p2 [p1] (s1.trans s2) (s1.free n2) (fun a ha => by rw [List.mem_singleton.mp ha]; exact n1) ⟨upd_same, s2 p1 (.lst ([] : List V)) upd_same, trivial⟩
  · have hm : m ≠ 0 := fun e => c (decide_eq_true (congrArg V.int (by omega)))
    obtain ⟨k, rfl⟩ : ∃ k, m = k + 1 := ⟨m - 1, by omega⟩
    have e : allM (k + 1) o = (allM k (o - 1)).map (1 :: ·) ++ (allM k o).map (0 :: ·) := by
      show (if _ then _ else if _ then _ else _) = _
      rw [if_neg c', if_neg d']
    rw [e] at q
    have ek : ((k + 1 : Nat) : Int) - 1 = (k : Int) := by omega
    have hp : 2 ^ k ≤ 2 ^ 11 := Nat.pow_le_pow_right (by decide) (by omega)
    refine ⟨_, rfl, _, _, rfl, rfl, _, rfl, _, _, rfl, rfl, k, o - 1, congrArg (fun z => [V.int z, V.int (o - 1)]) ek, by omega, by omega, fun H2 R rs sm2 nR nrs hR => ?_⟩
    obtain ⟨eR, hrs⟩ := hR
    have hrl := hrs.len
    have hpl := allM_len k (o - 1)
    generalize hPP : allM k (o - 1) = PP at *
    refine ⟨R, rfl, ⟨_, sq eR⟩, fun D nD => lc_list (K := K) (a := R) (xs := rs.map V.ref) (fun i H' => ∃ bs : List Addr, Same H H' ∧ H' R = some (.lst (rs.map V.ref)) ∧ LLs H' rs PP ∧ LL H' D bs ((PP.take i).map (1 :: ·)) ∧ ∀ a ∈ bs, H a = none ∧ a ≠ D)
      ⟨[], sm2.trans (same_new nD _), same_new nD _ _ _ eR, hrs.same (same_new nD _), ⟨upd_same, trivial⟩, fun a ha => (by cases ha)⟩ (fun i H' _ h => by obtain ⟨_, _, e, _⟩ := h; exact sq e) ?_ ?_⟩
    · intro i x H' hx h
      obtain ⟨r, hr, rfl⟩ := get_ref hx
      obtain ⟨bs, sm3, eR3, hrs3, ⟨eD3, hLL3⟩, hbs⟩ := h
      obtain ⟨ns, hns, er⟩ := hrs3.get hr
      have hil := (List.getElem?_eq_some_iff.mp hns).1
      have hnl : ns.length ≤ 12 := by
        have := (mem_allM.mp (by rw [hPP]; exact List.mem_of_getElem? hns)).2.1
        omega
      have hl3 := hLL3.len
      rw [List.length_map, List.length_take] at hl3
      refine ⟨rfl, (by show 1 ≤ sizeLine; decide), fun p1 n1 => ?_⟩
      have s1 := same_new n1 (.lst [V.int 1])
      refine ⟨_, rfl, p1, r, _, _, rfl, rfl, upd_same, s1 _ _ er, by rw [nlen]; exact small (by show 1 + ns.length ≤ _; omega), fun p2 n2 => ?_⟩
      have s2 := same_new n2 (.lst ([V.int 1] ++ ns.map V.int))
      have e2 : IL (upd (upd H' p1 (.lst [V.int 1])) p2 (.lst ([V.int 1] ++ ns.map V.int))) p2 (1 :: ns) := upd_same
      have s12 := s1.trans s2
      have n2' : H' p2 = none := s1.free n2
      generalize upd (upd H' p1 (.lst [V.int 1])) p2 (.lst ([V.int 1] ++ ns.map V.int)) = H4 at *
      have eD4 := s12 _ _ eD3
      have nDp : p2 ≠ D := (ne_of_none eD3 n2').symm
      refine ⟨_, eD4, by rw [rlen]; exact smallM (by omega), ?_⟩
      have nD0 : H D = none := sm2.free nD
      have nRD : R ≠ D := ne_of_none eR nD
      have rne : ∀ a ∈ rs, a ≠ D := hrs.ne nD
      refine ⟨bs ++ [p2], same_mut (sm3.trans s12) nD0 _, by rw [upd_ne nRD]; exact s12 _ _ eR3, (hrs3.same s12).upd rne, ⟨?_, ?_⟩, fun a ha => ?_⟩
      · simp only [upd_same, List.map_append]
        rfl
      · rw [take_snoc hns, List.map_append]
        refine LLs.upd (fun a ha => ?_) ((hLL3.same s12).app ⟨e2, trivial⟩)
        rcases List.mem_append.mp ha with ha | ha
        · exact (hbs a ha).2
        · rw [List.mem_singleton.mp ha]
          exact nDp
      · rcases List.mem_append.mp ha with ha | ha
        · exact hbs a ha
        · rw [List.mem_singleton.mp ha]
          exact ⟨sm3.free n2', nDp⟩
    · intro H5 h
      obtain ⟨as, smA, _, _, hA, hasA⟩ := h
      rw [rlen, hrl, List.take_length] at hA
      have nD0 : H D = none := sm2.free nD
      clear eR hrs hrl nR nrs sm2 nD hPP
      refine ⟨_, rfl, _, rfl, _, _, rfl, rfl, _, rfl, k, o, congrArg (fun z => [V.int z, V.int o]) ek, by omega, by omega, fun H6 R rs sm6 nR nrs hR => ?_⟩
      obtain ⟨eR, hrs⟩ := hR
      have hrl := hrs.len
      have hpl2 := allM_len k o
      have hA6 : LL H6 D as (PP.map (1 :: ·)) := ⟨sm6 _ _ hA.1, hA.2.same sm6⟩
      have hal := hA6.2.len
      rw [List.length_map] at hal
      generalize hQQ : allM k o = QQ at *
      refine ⟨R, rfl, ⟨_, sq eR⟩, fun D2 nD2 => lc_list (K := K) (a := R) (xs := rs.map V.ref) (fun i H' => ∃ bs : List Addr, Same H6 H' ∧ H' R = some (.lst (rs.map V.ref)) ∧ LLs H' rs QQ ∧ LL H' D2 bs ((QQ.take i).map (0 :: ·)) ∧ ∀ a ∈ bs, H6 a = none ∧ a ≠ D2)
        ⟨[], same_new nD2 _, same_new nD2 _ _ _ eR, hrs.same (same_new nD2 _), ⟨upd_same, trivial⟩, fun a ha => (by cases ha)⟩ (fun i H' _ h => by obtain ⟨_, _, e, _⟩ := h; exact sq e) ?_ ?_⟩
      · intro i x H' hx h
        obtain ⟨r, hr, rfl⟩ := get_ref hx
        obtain ⟨bs, sm3, eR3, hrs3, ⟨eD3, hLL3⟩, hbs⟩ := h
        obtain ⟨ns, hns, er⟩ := hrs3.get hr
        have hil := (List.getElem?_eq_some_iff.mp hns).1
        have hnl : ns.length ≤ 12 := by
          have := (mem_allM.mp (by rw [hQQ]; exact List.mem_of_getElem? hns)).2.1
          omega
        have hl3 := hLL3.len
        rw [List.length_map, List.length_take] at hl3
        refine ⟨rfl, (by show 1 ≤ sizeLine; decide), fun p1 n1 => ?_⟩
        have s1 := same_new n1 (.lst [V.int 0])
        refine ⟨_, rfl, p1, r, _, _, rfl, rfl, upd_same, s1 _ _ er, by rw [nlen]; exact small (by show 1 + ns.length ≤ _; omega), fun p2 n2 => ?_⟩
        have s2 := same_new n2 (.lst ([V.int 0] ++ ns.map V.int))
        have e2 : IL (upd (upd H' p1 (.lst [V.int 0])) p2 (.lst ([V.int 0] ++ ns.map V.int))) p2 (0 :: ns) := upd_same
        have s12 := s1.trans s2
        have n2' : H' p2 = none := s1.free n2
        generalize upd (upd H' p1 (.lst [V.int 0])) p2 (.lst ([V.int 0] ++ ns.map V.int)) = H4 at *
        have eD4 := s12 _ _ eD3
        have nDp : p2 ≠ D2 := (ne_of_none eD3 n2').symm
        refine ⟨_, eD4, by rw [rlen]; exact smallM (by omega), ?_⟩
        have nRD : R ≠ D2 := ne_of_none eR nD2
        have rne : ∀ a ∈ rs, a ≠ D2 := hrs.ne nD2
        refine ⟨bs ++ [p2], same_mut (sm3.trans s12) nD2 _, by rw [upd_ne nRD]; exact s12 _ _ eR3, (hrs3.same s12).upd rne, ⟨?_, ?_⟩, fun a ha => ?_⟩
        · simp only [upd_same, List.map_append]
          rfl
        · rw [take_snoc hns, List.map_append]
          refine LLs.upd (fun a ha => ?_) ((hLL3.same s12).app ⟨e2, trivial⟩)
          rcases List.mem_append.mp ha with ha | ha
          · exact (hbs a ha).2
          · rw [List.mem_singleton.mp ha]
            exact nDp
        · rcases List.mem_append.mp ha with ha | ha
          · exact hbs a ha
          · rw [List.mem_singleton.mp ha]
            exact ⟨sm3.free n2', nDp⟩
      · intro H7 h
        obtain ⟨bs, smB, _, _, hB, hasB⟩ := h
        rw [rlen, hrl, List.take_length] at hB
        have hbl := hB.2.len
        rw [List.length_map] at hbl
        refine ⟨D, D2, _, _, rfl, rfl, smB _ _ hA6.1, hB.1, by rw [rlen, rlen]; exact small (by omega), fun L nL => ?_⟩
        have smL := (smA.trans sm6).trans smB
        have sL := same_new nL (.lst (as.map V.ref ++ bs.map V.ref))
        refine q _ L (as ++ bs) (smL.trans sL) (smL.free nL) (fun a ha => ?_) ⟨?_, ?_⟩
        · rcases List.mem_append.mp ha with ha | ha
          · exact (hasA a ha).1
          · exact (smA.trans sm6).free (hasB a ha).1
        · rw [upd_same, List.map_append]
        · exact ((hA6.2.same smB).app hB.2).same sL
theorem rec_law_all_marks (T : Txt K mg) : ∀ n : Nat, Cal P w K mg base CX0 n "_law_all_marks" ["many", "ones"] (sp_law_all_marks n)
  | 0 => by
    obtain ⟨fd, F, g⟩ := T.d_law_all_marks
    have no : ∀ vs H Q E, ¬ sp_law_all_marks 0 vs H Q E := fun vs H Q E h => by
      obtain ⟨c, m, _, h1, _⟩ := h
      omega
    exact ⟨_, fd, ⟨fun vs H Q E h => absurd h (no vs H Q E), fun A outer s H args us vs Q E _ _ _ _ h => absurd h (no vs H Q E)⟩, g, F.kp, F.bindsN (fun _ _ _ _ _ _ us hl => match us, hl with | [_, _], _ => rfl)⟩
  | n + 1 => step_law_all_marks T (rec_law_all_marks T n)
theorem ok_law_all_marks (T : Txt K mg) : Cal P w K mg base CX0 20 "_law_all_marks" ["many", "ones"] (sp_law_all_marks 20) := rec_law_all_marks T 20

end

section
variable {P : Program} {w : World} {K : PySem.W.Frag} {mg : Str → Option Value} {base : Heap}
theorem sc_law_rings : FnScope ["coins", "stair", "found", "marks", "turns", "k", "ring", "one"] ["coins"] (defScope s_law_rings) := ⟨rfl, rfl, rfl, by decide +kernel, rfl, by decide +kernel, by decide +kernel⟩
theorem turnsL_len (S : Nat) (ms : List Int) : (turnsL S ms).length = S := by
  unfold turnsL
  rw [List.length_map, List.length_range]
theorem turnsL_get {S i : Nat} (ms : List Int) (h : i < S) : (turnsL S ms)[i]? = some (ms.drop (S - i) ++ ms.take (S - i)) := by
  unfold turnsL
  rw [List.getElem?_map, List.getElem?_range h] <;> rfl
theorem turnsL_elt {S : Nat} {ms m : List Int} (h : m ∈ turnsL S ms) : m.length = ms.length := by
  unfold turnsL at h
  obtain ⟨k, _, rfl⟩ := List.mem_map.mp h
  rw [List.length_append, List.length_drop, List.length_take]
  omega
theorem max_is {S : Nat} {ms m : List Int} (hS : 1 ≤ S) (hl : ms.length = S) (hm : m ∈ turnsL S ms) (hmax : ∀ y ∈ turnsL S ms, y ≤ m) : m = ms ↔ ∀ y ∈ turnsL S ms, y ≤ ms := by
  have h0 : ms ∈ turnsL S ms := by
    have := turnsL_get (i := 0) ms (show 0 < S by omega)
    rw [Nat.sub_zero, List.drop_of_length_le (by omega), List.nil_append, List.take_of_length_le (by omega)] at this
    exact List.mem_of_getElem? this
  constructor
  · intro e
    rw [← e]
    rw [← e] at hmax
    exact hmax
  · intro h
    exact List.le_antisymm (h m hm) (hmax ms h0)
def sp_law_rings : Sp := fun vs H Q _ => ∃ n : Nat, vs = [.int n] ∧ 1 ≤ n ∧ n ≤ 36 ∧ NL3 Q H (lawRings (stair n) (allM (stair n) (restOf n)))
theorem ok_law_rings (T : Txt K mg) : Cal P w K mg base CX0 21 "_law_rings" ["coins"] sp_law_rings := by
  have C_law_all_marks := ok_law_all_marks (P := P) (w := w) (base := base) T
  have C_law_by_marks := ok_law_by_marks (P := P) (w := w) (base := base) T
  have C_law_stair := ok_law_stair (P := P) (w := w) (base := base) T
  refine cal_mk T.d_law_rings sc_law_rings ?_ (fun _ _ _ _ _ _ us hl => match us, hl with | [_], _ => rfl) (fun f cdv A outer s H vs Q E hr h => ?_)
  · intro vs H Q E h
    obtain ⟨n, rfl, _⟩ := h
    rfl
  obtain ⟨n, rfl, h1, h2, q⟩ := h
  obtain ⟨r1, r2, r3⟩ := rest_spec h1
  have hst := stair_le h1 (b := 8) (by omega) (by omega)
  have hst1 := (stair_spec h1).1
  have hmem : ∀ ms ∈ allM (stair n) (restOf n), Bits ms ∧ ms.length = stair n ∧ ms.sum = (restOf n : Int) := fun ms h => mem_allM.mp h
  have hMl := allM_len (stair n) (restOf n)
  have h2l : 2 ^ stair n ≤ 2 ^ 8 := Nat.pow_le_pow_right (by decide) hst
  refine ⟨_, (pss_cons (ps_set (i := 1) sc_law_rings.nd rfl (Or.inr rfl) (pe_callF C_law_stair (hr.mono (by decide)) (pa_cons (pv 0) pa_nil)))
      (pss_cons (ps_set (i := 2) sc_law_rings.nd rfl (Or.inl rfl) (pe_lst pa_nil))
      (pss_cons (ps_for PassesOwn.never rfl (pi_list (pe_callF C_law_all_marks (hr.mono (by decide)) (pa_cons (pv 1) (pa_cons (pe_op op_sub (pv 0) (pe_op op_fdiv (pe_op op_mul (pv 1) (pe_op op_sub (pv 1) pe_int)) pe_int)) pa_nil)))) (pg_name (i := 3) sc_law_rings.nd rfl (Or.inr rfl))
      (pss_cons (ps_setLc (i := 4) (own := [("k", 5)]) (g := gName 5) rfl sc_law_rings.nd rfl rfl (sw_true rfl rfl rfl (by decide +kernel)) (pi_range1 (by rfl) T.m_range (pa_cons (pv 1) pa_nil)) (blkOk_by (own := [("k", 5)]) (N := ["coins", "stair", "found", "marks", "turns", "k", "ring", "one"]) (sc := defScope s_law_rings) (by decide +kernel)) (fun _ _ _ _ _ => pg_name (i := 5) sc_law_rings.nd rfl (Or.inl rfl)) (fun _ _ _ _ _ => pts_nil) (fun _ _ _ _ _ => (pe_op op_cat (pe_slice (sl_listK K) (pv 3) (po_some (pe_op op_sub (pv 1) (pv 5))) po_none) (pe_slice (sl_listK K) (pv 3) po_none (po_some (pe_op op_sub (pv 1) (pv 5)))))))
      (pss_one (ps_if (pt_cmpR (op_eqD hr.units) (pe_callB (cr_maxL rfl (hu65 hr)) (by rfl) T.m_max (by decide +kernel) (pa_cons (pv 4) pa_nil)) (pv 3) (nomark _))
      (pss_cons (ps_set (i := 6) sc_law_rings.nd rfl (Or.inl rfl) (pe_lst pa_nil))
      (pss_cons (ps_for PassesOwn.never rfl (pi_list (pv 4)) (pg_name (i := 7) sc_law_rings.nd rfl (Or.inl rfl))
      (pss_one (ps_if (pt_cmpR (op_notInD (hu65 hr)) (pe_callF C_law_by_marks (hr.mono (by decide)) (pa_cons (pv 7) pa_nil)) (pv 6) rfl)
      (pss_one (ps_expr (pe_bm PySem.F.plainAttrs_list PySem.F.slot_list_append PySem.F.type_list_append mt_append (pv 6) (pa_cons (pe_callF C_law_by_marks (hr.mono (by decide)) (pa_cons (pv 7) pa_nil)) pa_nil)))) pss_nil)))
      (pss_one (ps_expr (pe_bm PySem.F.plainAttrs_list PySem.F.slot_list_append PySem.F.type_list_append mt_append (pv 2) (pa_cons (pv 6) pa_nil)))))) pss_nil))))
      (pss_one (ps_ret (pv 2)))))), ?_⟩
  refine ⟨_, rfl, n, rfl, h1, by omega, ?_⟩
  generalize hMM : allM (stair n) (restOf n) = MM at *
  have e1 : (n : Int) - (stair n : Int) * ((stair n : Int) - 1) / 2 = (restOf n : Int) := by
    have : (stair n : Int) * ((stair n : Int) - 1) = ((stair n * (stair n - 1) : Nat) : Int) := by
      rw [Int.natCast_mul]
      congr 1
      omega
    rw [this]
    omega
  generalize stair n = S at *
  refine ⟨Nat.zero_le _, fun D nD => ?_⟩
  have s2 := same_new nD (.lst ([] : List V))
  have eD2 : (upd H D (.lst [])) D = some (.lst []) := upd_same
  generalize upd H D (.lst []) = H2 at *
  refine ⟨_, rfl, _, rfl, _, rfl, _, rfl, _, _, rfl, rfl, _, _, rfl, rfl, .inl ⟨by omega, by omega⟩, _, _, rfl, rfl, ⟨by decide, by decide⟩, _, _, rfl, rfl, S, restOf n, congrArg (fun z => [V.int S, V.int z]) e1, by omega, by omega, fun H3 R rs sm3 nR nrs hR => ?_⟩
  rw [hMM] at hR
  obtain ⟨eR, hrs⟩ := hR
  have hrl := hrs.len
  have nRD : R ≠ D := (ne_of_none eD2 nR).symm
  have rsD : ∀ a ∈ rs, a ≠ D := fun a ha => (ne_of_none eD2 (nrs a ha)).symm
  have s3 := s2.trans sm3
  have eD3 := sm3 _ _ eD2
  clear s2 eD2 sm3 nR nrs
  refine ⟨R, rfl, ⟨_, sq eR⟩, for_list (K := K) (a := R) (xs := rs.map V.ref) (fun i σ H' => ∃ (as : List Addr) (y3 y4 y6 y7 : Option V), σ = [some (.int n), some (.int S), some (.ref D), y3, y4, none, y6, y7] ∧ Same H H' ∧ H' R = some (.lst (rs.map V.ref)) ∧ LLs H' rs MM ∧ H' D = some (.lst (as.map V.ref)) ∧ L3s (fun b => H b = none ∧ b ≠ D) H' as (lawRings S (MM.take i)))
    ⟨[], none, none, none, none, rfl, s3, eR, hrs, eD3, trivial⟩ (fun i σ H' _ h => by obtain ⟨_, _, _, _, _, _, _, e, _⟩ := h; exact sq e) ?_ ?_⟩
  · intro i x σ H' hx h
    obtain ⟨r, hr', rfl⟩ := get_ref hx
    obtain ⟨as, y3, y4, y6, y7, rfl, sm, eR, hrs, eD, hL⟩ := h
    obtain ⟨ms, hms, er⟩ := hrs.get hr'
    have hil := (List.getElem?_eq_some_iff.mp hms).1
    have hmm : ms ∈ MM := List.mem_of_getElem? hms
    obtain ⟨b, l, sums⟩ := hmem ms hmm
    have hal := hL.len
    have hfl := lawRings_len S MM i
    rw [take_snoc hms, lawRings_snoc]
    unfold addMax
    generalize hfo : lawRings S (MM.take i) = fo at *
    -- turns
    refine ⟨_, rfl, S, rfl, by omega, by omega, fun U nU => lc_range (lo := 0) (n := (S : Int).toNat) (fun j H'' => ∃ us : List Addr, Same H' H'' ∧ LL H'' U us ((turnsL S ms).take j) ∧ ∀ u ∈ us, H' u = none ∧ u ≠ U) ⟨[], same_new nU _, ⟨upd_same, trivial⟩, fun u hu => (by cases hu)⟩ ?_ ?_⟩
    · intro j H4 hj h
      obtain ⟨us, sm4, ⟨eU, hU⟩, hus⟩ := h
      have hj : j < S := by omega
      have hul := hU.len
      rw [List.length_take, turnsL_len] at hul
      have gj := turnsL_get ms hj
      have er4 := sm4 _ _ er
      have eSj : (S : Int) - (0 + (j : Int)) = ((S - j : Nat) : Int) := by omega
      refine ⟨rfl, _, rfl, _, rfl, _, rfl, _, _, rfl, rfl, _, rfl, r, _, rfl, sq er4, fun p1 n1 => ?_⟩
      rw [eSj, cut_from _ (by rw [nlen]; omega)]
      have t1 := same_new n1 (.lst ((ms.map V.int).drop (S - j)))
      refine ⟨_, rfl, _, rfl, _, rfl, _, _, rfl, rfl, _, rfl, r, _, rfl, sq (t1 _ _ er4), fun p2 n2 => ?_⟩
      rw [eSj, cut_to _ (by rw [nlen]; omega)]
      have t2 := same_new n2 (.lst ((ms.map V.int).take (S - j)))
      refine ⟨p1, p2, _, _, rfl, rfl, t2 _ _ upd_same, upd_same, by rw [List.length_drop, List.length_take, nlen]; exact small (by omega), fun p3 n3 => ?_⟩
      have t3 := same_new n3 (.lst ((ms.map V.int).drop (S - j) ++ (ms.map V.int).take (S - j)))
      have t13 := (t1.trans t2).trans t3
      have n3' : H4 p3 = none := (t1.trans t2).free n3
      have e3 : IL (upd (upd (upd H4 p1 (.lst ((ms.map V.int).drop (S - j)))) p2 (.lst ((ms.map V.int).take (S - j)))) p3 (.lst ((ms.map V.int).drop (S - j) ++ (ms.map V.int).take (S - j)))) p3 (ms.drop (S - j) ++ ms.take (S - j)) := by
        show upd _ _ _ _ = _
        rw [upd_same, List.map_append, List.map_drop, List.map_take]
      generalize upd (upd (upd H4 p1 (.lst ((ms.map V.int).drop (S - j)))) p2 (.lst ((ms.map V.int).take (S - j)))) p3 (.lst ((ms.map V.int).drop (S - j) ++ (ms.map V.int).take (S - j))) = H5 at *
      have eU5 := t13 _ _ eU
      have nUp : p3 ≠ U := (ne_of_none eU n3').symm
      refine ⟨_, eU5, by rw [rlen]; exact smallL (by omega), us ++ [p3], same_mut (sm4.trans t13) nU _, ⟨by rw [upd_same, List.map_append] <;> rfl, ?_⟩, fun u hu => ?_⟩
      · rw [take_snoc gj]
        refine LLs.upd (fun a ha => ?_) ((hU.same t13).app ⟨e3, trivial⟩)
        rcases List.mem_append.mp ha with ha | ha
        · exact (hus a ha).2
        · rw [List.mem_singleton.mp ha]
          exact nUp
      · rcases List.mem_append.mp hu with ha | ha
        · exact hus u ha
        · rw [List.mem_singleton.mp ha]
          exact ⟨sm4.free n3', nUp⟩
    · intro H5 h
      obtain ⟨us, sm5, hUL, hus⟩ := h
      rw [Int.toNat_natCast, List.take_of_length_le (by rw [turnsL_len]; exact Nat.le_refl _)] at hUL
      have hul := hUL.2.len
      rw [turnsL_len] at hul
      have eR5 := sm5 _ _ eR
      have hrs5 := hrs.same sm5
      have eD5 := sm5 _ _ eD
      have hL5 := hL.same sm5
      have er5 := sm5 _ _ er
      have nU0 : H U = none := sm.free nU
      have sm05 := sm.trans sm5
      have hne : turnsL S ms ≠ [] := fun e => by
        have := turnsL_len S ms
        rw [e] at this
        rw [← this] at hst1
        exact absurd hst1 (by decide)
      have nUD : U ≠ D := (ne_of_none eD nU).symm
      have helt : ∀ m ∈ turnsL S ms, m.length ≤ 100 := fun m hm => by
        have := turnsL_elt hm
        omega
      have hmx := fun (m : List Int) (hm : m ∈ turnsL S ms) => max_is (m := m) hst1 l hm
      have htl := turnsL_len S ms
      clear sm5 eR hrs eD hL nU sm er
      generalize turnsL S ms = ts at *
      -- if max(turns) == marks
      refine ⟨_, rfl, U, us, ts, rfl, hUL, hne, fun v va m gv gm hmax => ?_⟩
      have hmt := List.mem_of_getElem? gm
      obtain ⟨m', gm', em'⟩ := hUL.2.get gv
      rw [gm] at gm'
      obtain rfl := Option.some.inj gm'
      refine ⟨_, rfl, _, _, dp_ints (sq em'), dp_ints (sq er5), sh_ints _, sh_ints _, _, rfl, ite2 (fun c => ?_) (fun c => ?_)⟩
      · have hm : m = ms := by
          by_cases e : m = ms
          · exact e
          · rw [eqv_ints, decide_eq_false e] at c
            cases c
        rw [if_pos ((hmx m hmt hmax).mp hm)]
        -- ring = []
        refine ⟨Nat.zero_le _, fun G nG => ?_⟩
        have sG := same_new nG (.lst ([] : List V))
        have eG : (upd H5 G (.lst ([] : List V))) G = some (.lst []) := upd_same
        have nGD : G ≠ D := (ne_of_none eD5 nG).symm
        have nG0 : H G = none := sm05.free nG
        have nGR : G ≠ R := (ne_of_none eR5 nG).symm
        have nGU : G ≠ U := (ne_of_none hUL.1 nG).symm
        have usG : ∀ u ∈ us, u ≠ G := hUL.2.ne nG
        have rsG : ∀ u ∈ rs, u ≠ G := hrs5.ne nG
        refine ⟨_, rfl, U, rfl, ⟨_, sq (sG _ _ hUL.1)⟩, for_list (K := K) (a := U) (xs := us.map V.ref) (fun j σ H' => ∃ (gs : List Addr) (y7 : Option V), σ = [some (.int n), some (.int S), some (.ref D), some (.ref r), some (.ref U), none, some (.ref G), y7] ∧ Same H H' ∧ H' R = some (.lst (rs.map V.ref)) ∧ LLs H' rs MM ∧ H' D = some (.lst (as.map V.ref)) ∧ L3s (fun b => (H b = none ∧ b ≠ D) ∧ b ≠ G) H' as fo ∧ LL H' U us ts ∧ LL H' G gs (ringD (ts.take j)) ∧ ∀ g ∈ gs, (H g = none ∧ g ≠ D) ∧ g ≠ G)
          ⟨[], y7, rfl, sm05.trans sG, sG _ _ eR5, hrs5.same sG, sG _ _ eD5, (hL5.apart nG).same sG, ⟨sG _ _ hUL.1, hUL.2.same sG⟩, ⟨eG, trivial⟩, fun g hg => (by cases hg)⟩ (fun j σ H' _ h => by obtain ⟨_, _, _, _, _, _, _, _, e, _⟩ := h; exact sq e.1) ?_ ?_⟩
        · intro j x' σ H' hx h
          obtain ⟨u, hu, rfl⟩ := get_ref hx
          obtain ⟨gs, y7, rfl, sm, eR, hrs, eD, hL, hU, hG, hgs⟩ := h
          obtain ⟨o, ho, eo⟩ := hU.2.get hu
          have hjl := (List.getElem?_eq_some_iff.mp ho).1
          have hol := helt o (List.mem_of_getElem? ho)
          have hgl := hG.2.len
          have hrl2 := ringD_len ts j
          rw [take_snoc ho, ringD_snoc]
          unfold addNew
          generalize hrd : ringD (ts.take j) = rd at *
          refine ⟨_, rfl, u, o, rfl, eo, by omega, fun H7 w sm7 nw ew => ?_⟩
          have hG7 : LL H7 G gs rd := ⟨sm7 _ _ hG.1, hG.2.same sm7⟩
          refine ⟨_, rfl, toD (ofMarks o), rd.map toD, dp_ints (sq ew), dp_ll hG7, sh_ints _, sh_lls _, ?_⟩
          rw [any_lls]
          have sm' := sm.trans sm7
          have eR7 := sm7 _ _ eR
          have hrs7 := hrs.same sm7
          have eD7 := sm7 _ _ eD
          have hL7 := hL.same sm7
          have hU7 : LL H7 U us ts := ⟨sm7 _ _ hU.1, hU.2.same sm7⟩
          have eo7 := sm7 _ _ eo
          clear sm sm7 eR hrs eD hL hU hG eo nw
          refine ⟨_, rfl, ite2 (fun c => ?_) (fun c => ?_)⟩
          · have hno : ¬ ofMarks o ∈ rd := fun e => by
              rw [decide_eq_true e] at c
              cases c
            rw [if_neg hno]
            refine ⟨_, rfl, .inl ⟨rfl, _, sq hG7.1⟩, _, rfl, u, o, rfl, eo7, by omega, fun H8 w2 sm8 nw2 ew2 => ?_⟩
            have hG8 : LL H8 G gs rd := ⟨sm8 _ _ hG7.1, hG7.2.same sm8⟩
            refine ⟨G, _, _, rfl, rfl, hG8.1, by rw [rlen]; exact smallL (by omega), ?_⟩
            have sm9 := sm'.trans sm8
            have nwG : w2 ≠ G := (ne_of_none hG7.1 nw2).symm
            have nwD : w2 ≠ D := (ne_of_none eD7 nw2).symm
            have nw0 : H w2 = none := sm'.free nw2
            refine ⟨gs ++ [w2], _, rfl, same_mut sm9 nG0 _, by rw [upd_ne nGR.symm]; exact sm8 _ _ eR7, (hrs7.same sm8).upd rsG, by rw [upd_ne nGD.symm]; exact sm8 _ _ eD7, ?_, ⟨by rw [upd_ne nGU.symm]; exact sm8 _ _ hU7.1, (hU7.2.same sm8).upd usG⟩, ⟨by rw [upd_same, List.map_append] <;> rfl, ?_⟩, fun g hg => ?_⟩
            · exact (hL7.same sm8).upd (fun a h => h.2)
            · refine LLs.upd (fun a ha => ?_) (hG8.2.app ⟨ew2, trivial⟩)
              rcases List.mem_append.mp ha with ha | ha
              · exact (hgs a ha).2
              · rw [List.mem_singleton.mp ha]
                exact nwG
            · rcases List.mem_append.mp hg with ha | ha
              · exact hgs g ha
              · rw [List.mem_singleton.mp ha]
                exact ⟨⟨nw0, nwD⟩, nwG⟩
          · have hyes : ofMarks o ∈ rd := by
              by_cases e : ofMarks o ∈ rd
              · exact e
              · rw [decide_eq_false e] at c
                exact absurd rfl c
            rw [if_pos hyes]
            exact ⟨gs, _, rfl, sm', eR7, hrs7, eD7, hL7, hU7, hG7, hgs⟩
        · intro σ H' h
          obtain ⟨gs, y7, rfl, sm, eR, hrs, eD, hL, hU, hG, hgs⟩ := h
          rw [rlen, hul, ← htl, List.take_length] at hG
          refine ⟨_, rfl, .inl ⟨rfl, _, sq eD⟩, _, rfl, D, _, _, rfl, rfl, eD, by rw [rlen]; exact smallL (by omega), ?_⟩
          refine ⟨as ++ [G], _, _, _, _, rfl, same_mut sm nD _, by rw [upd_ne nRD]; exact eR, hrs.upd rsD, by rw [upd_same, List.map_append] <;> rfl, ((hL.mono (fun a h => h.1)).upd (fun a h => h.2)).app ⟨⟨⟨nG0, nGD⟩, gs, ⟨by rw [upd_ne nGD]; exact hG.1, hG.2.upd fun g hg => (hgs g hg).1.2⟩, fun g hg => (hgs g hg).1⟩, trivial⟩⟩
      · have hm : ¬ m = ms := fun e => by
          rw [eqv_ints, decide_eq_true e] at c
          exact absurd rfl c
        rw [if_neg (fun h => hm ((hmx m hmt hmax).mpr h))]
        exact ⟨as, _, _, _, _, rfl, sm05, eR5, hrs5, eD5, hL5⟩
  · intro σ H' h
    obtain ⟨as, y3, y4, y6, y7, rfl, sm, eR, hrs, eD, hL⟩ := h
    rw [rlen, hrl, List.take_length] at hL
    exact ⟨_, rfl, q H' D as sm nD eD hL⟩

end

section
variable {P : Program} {w : World} {K : PySem.W.Frag} {mg : Str → Option Value} {base : Heap}
theorem sc_law_rings_like : FnScope ["found", "due", "one", "other"] ["found", "due"] (defScope s_law_rings_like) := ⟨rfl, rfl, rfl, by decide +kernel, rfl, by decide +kernel, by decide +kernel⟩
def sp_law_rings_like : Sp := fun vs H Q _ => ∃ (f d : Addr) (fs ds : List Addr) (xs : List (List (List Int))) (F G : Addr → Prop), vs = [.ref f, .ref d] ∧ H f = some (.lst (fs.map V.ref)) ∧ H d = some (.lst (ds.map V.ref)) ∧ L3s F H fs xs ∧ L3s G H ds xs ∧ (∀ r ∈ xs, ∀ m ∈ r, m.length ≤ 1000) ∧ ∀ H', Same H H' → Q (.bl true) H'
theorem ok_law_rings_like (T : Txt K mg) : Cal P w K mg base CX0 3 "_law_rings_like" ["found", "due"] sp_law_rings_like := by
  have C_law_lists_like := ok_law_lists_like (P := P) (w := w) (base := base) T
  refine cal_mk T.d_law_rings_like sc_law_rings_like ?_ (fun _ _ _ _ _ _ us hl => match us, hl with | [_, _], _ => rfl) (fun f cdv A outer s H vs Q E hr h => ?_)
  · intro vs H Q E h
    obtain ⟨f, d, fs, ds, xs, F, G, rfl, _⟩ := h
    rfl
  obtain ⟨f, d, fs, ds, xs, F, G, rfl, hF, hD, hfs, hds, hl, q⟩ := h
  have l1 := hfs.len
  have l2 := hds.len
  refine ⟨_, (pss_cons (ps_if (PW.pt (pw_or (pt_not (pt_val (pe_callB call_isi (by rfl) T.m_isinstance (by decide +kernel) (pa_cons (pv 0) (pa_cons (pe_bltn (v := .ty "list") (by rfl) T.m_list (by decide +kernel) rfl) pa_nil))))) (pw_or1 (pt_cmpR op_ne (pe_callB call_len_seq (by rfl) T.m_len PySem.boot_len (pa_cons (pv 0) pa_nil)) (pe_callB call_len_seq (by rfl) T.m_len PySem.boot_len (pa_cons (pv 1) pa_nil)) (nomark _)))))
      (pss_one (ps_ret pe_bl)) pss_nil)
      (pss_cons (ps_for PassesOwn.never rfl (pi_zip (by rfl) T.m_zip (pa_cons (pv 0) (pa_cons (pv 1) pa_nil))) (pg_tup rfl (pgs_cons (pg_name (i := 2) sc_law_rings_like.nd rfl (Or.inl rfl)) (pgs_cons (pg_name (i := 3) sc_law_rings_like.nd rfl (Or.inl rfl)) pgs_nil)))
      (pss_one (ps_if (pt_not (pt_val (pe_callF C_law_lists_like (hr.mono (by decide)) (pa_cons (pv 2) (pa_cons (pv 3) pa_nil)))))
      (pss_one (ps_ret pe_bl)) pss_nil)))
      (pss_one (ps_ret pe_bl)))), ?_⟩
  refine ⟨_, rfl, _, .ty "list", .type "list", .type "list", true, rfl, ClsV.ty _, .base (.lst hF), kit_ty (by decide +kernel), true, rfl, ?_⟩
  refine ⟨_, rfl, f, _, rfl, .inl (sq hF), _, rfl, d, _, rfl, .inl (sq hD), rfl, _, rfl, ite2 (fun c => absurd c (by rw [rlen, rlen, l1, l2, decide_eq_true rfl]; decide)) (fun c => ?_)⟩
  refine ⟨_, rfl, _, rfl, f, d, _, _, rfl, sq hF, sq hD, RZ.for_zipL (K := K) (xs := fs.map V.ref) (ys := ds.map V.ref) (by rw [rlen, rlen, l1, l2]) (fun i σ H' => ∃ y1 y2, σ = [some (.ref f), some (.ref d), y1, y2] ∧ Same H H')
    ⟨none, none, rfl, Same.refl H⟩ (fun i σ H' h => by obtain ⟨_, _, _, sm⟩ := h; exact ⟨sq (sm _ _ hF), sq (sm _ _ hD)⟩) ?_ ?_⟩
  · intro i x y Tp σ H' hx hy h nT
    obtain ⟨y1, y2, rfl, sm⟩ := h
    obtain ⟨fa, hfa, rfl⟩ := get_ref hx
    obtain ⟨da, hda, rfl⟩ := get_ref hy
    have sT := sm.trans (same_new nT (.tup [V.ref fa, V.ref da]))
    obtain ⟨m, bs, hm, _, efa, _⟩ := hfs.get hfa
    obtain ⟨n, cs, hn, _, eda, _⟩ := hds.get hda
    rw [hm] at hn
    obtain rfl := Option.some.inj hn
    refine ⟨Tp, [.ref fa, .ref da], rfl, .inl (.inl upd_same), rfl, .ref fa, [.ref da], rfl, .ref da, [], rfl, rfl, ?_⟩
    refine ⟨_, rfl, _, rfl, fa, da, bs, cs, m, m, rfl, ⟨sT _ _ efa.1, efa.2.same sT⟩, ⟨sT _ _ eda.1, eda.2.same sT⟩, hl m (List.mem_of_getElem? hm), fun H8 sm8 => ⟨_, rfl, ?_⟩⟩
    exact ite2 (fun c => absurd c (by rw [decide_eq_true rfl]; decide)) (fun _ => ⟨_, _, rfl, sT.trans sm8⟩)
  · intro σ H' h
    obtain ⟨y1, y2, rfl, sm⟩ := h
    exact q H' sm

end

section
variable {P : Program} {w : World} {K : PySem.W.Frag} {mg : Str → Option Value} {base : Heap}
theorem sc_law : FnScope ["script", "coins", "due", "found", "many"] ["script"] (defScope s_law) := ⟨rfl, rfl, rfl, by decide +kernel, rfl, by decide +kernel, by decide +kernel⟩
theorem ok_law_at (T : Txt K mg) {f : Addr} {fd : FuncData} (F : FunD K "law" "law" (defArgs s_law) (defBody s_law) (defScope s_law) [] [] f fd) : FnOk P w K mg base CX0 22 f fd ["script"] (spLaw K) := by
  have C_law_cell := ok_law_cell (P := P) (w := w) (base := base) T
  have C_law_rings := ok_law_rings (P := P) (w := w) (base := base) T
  have C_law_rings_like := ok_law_rings_like (P := P) (w := w) (base := base) T
  have C_law_whole := ok_law_whole (P := P) (w := w) (base := base) T
  have C_rings_many := ok_rings_many (P := P) (w := w) (base := base) T
  have C_rings_of := ok_rings_of (P := P) (w := w) (base := base) T
  refine F.ok sc_law (fun vs H Q E h => ?_) (fun cdv A outer s H vs Q E hr h => ?_)
  · obtain ⟨a, ns, rfl, _⟩ := h
    rfl
  obtain ⟨a, ns, rfl, hS, hlen, q⟩ := h
  refine ⟨_, PSs.nox ((pss_cons (ps_set (i := 1) sc_law.nd rfl (Or.inl rfl) (pe_op op_add pe_int (pe_op op_mod (pe_callF C_law_cell (hr.mono (by decide)) (pa_cons (pv 0) (pa_cons pe_int pa_nil))) pe_int)))
      (pss_cons (ps_set (i := 2) sc_law.nd rfl (Or.inl rfl) (pe_callF C_law_rings (hr.mono (by decide)) (pa_cons (pv 1) pa_nil)))
      (pss_cons (ps_set (i := 3) sc_law.nd rfl (Or.inl rfl) (pe_callF C_rings_of (hr.mono (by decide)) (pa_cons (pv 1) pa_nil)))
      (pss_cons (ps_set (i := 4) sc_law.nd rfl (Or.inl rfl) (pe_callF C_rings_many (hr.mono (by decide)) (pa_cons (pv 1) pa_nil)))
      (pss_cons (ps_if (PW.pt (pw_or (pt_not (pt_val (pe_callF C_law_rings_like (hr.mono (by decide)) (pa_cons (pv 3) (pa_cons (pv 2) pa_nil))))) (pw_or (pt_not (pt_val (pe_callF C_law_whole (hr.mono (by decide)) (pa_cons (pv 4) pa_nil)))) (pw_or1 (pt_cmpR op_ne (pv 4) (pe_callB call_len_seq (by rfl) T.m_len PySem.boot_len (pa_cons (pv 2) pa_nil)) (nomark _))))))
      (pss_one (ps_ret pe_bl)) pss_nil)
      (pss_cons (ps_expr (pe_bm PySem.F.plainAttrs_list PySem.F.slot_list_append PySem.F.type_list_append mt_append (pe_ix ix_list (pe_ix ix_list (pv 3) pe_int (fun _ _ => rfl)) pe_int (fun _ _ => rfl)) (pa_cons pe_int pa_nil)))
      (pss_cons (ps_expr (pe_bm PySem.F.plainAttrs_list PySem.F.slot_list_append PySem.F.type_list_append mt_append (pe_ix ix_list (pv 3) pe_int (fun _ _ => rfl)) (pa_cons (pe_lst (pa_cons pe_int pa_nil)) pa_nil)))
      (pss_cons (ps_expr (pe_bm PySem.F.plainAttrs_list PySem.F.slot_list_append PySem.F.type_list_append mt_append (pv 3) (pa_cons (pe_lst pa_nil) pa_nil)))
      (pss_one (ps_ret (pe_callF C_law_rings_like (hr.mono (by decide)) (pa_cons (pe_callF C_rings_of (hr.mono (by decide)) (pa_cons (pv 1) pa_nil)) (pa_cons (pv 2) pa_nil)))))))))))))), ?_⟩
  refine ⟨_, rfl, a, ns, 0, rfl, hS, by omega, fun z => ⟨_, _, rfl, rfl, (by show (0 : Int) < 36; decide), _, _, rfl, rfl, ?_⟩⟩
  obtain ⟨n, en, n1, n2⟩ := nat_of (z := z) (m := 36) (by decide)
  obtain ⟨k1, k2, k3, k4, k5⟩ := rings36 ⟨n, by omega⟩ n1
  replace k1 : rings n = lawRings (stair n) (allM (stair n) (restOf n)) := k1
  replace k2 : (rings n).length = ringsN (stair n) (restOf n) := k2
  replace k3 : rings n ≠ [] := k3
  replace k4 : (rings n).length ≤ 100 := k4
  replace k5 : ∀ r ∈ rings n, r ≠ [] ∧ r.length ≤ 8 ∧ ∀ m ∈ r, m.length ≤ 8 := k5
  have k6 : ∀ r ∈ rings n, ∀ m ∈ r, m.length ≤ 1000 := fun r hr m hm => by
    have := (k5 r hr).2.2 m hm
    omega
  refine ⟨_, rfl, n, congrArg (fun z => [V.int z]) en, n1, by omega, fun H1 d ds sm1 nd ed hD => ?_⟩
  rw [← k1] at hD
  have hdl := hD.len
  refine ⟨_, rfl, n, congrArg (fun z => [V.int z]) en, n1, by omega, fun H2 f fs sm2 nf ef hF => ?_⟩
  have hfl := hF.len
  refine ⟨_, rfl, n, congrArg (fun z => [V.int z]) en, n1, by omega, ?_⟩
  -- if not _law_rings_like(found, due) or not _law_whole(many) or many != len(due)
  refine ⟨_, rfl, _, rfl, f, d, fs, ds, _, _, _, rfl, ef, sm2 _ _ ed, hF, hD.same sm2, k6, fun H3 sm3 => ⟨true, rfl, ?_⟩⟩
  have sm23 := sm2.trans sm3
  have ef3 := sm3 _ _ ef
  have hF3 := hF.same sm3
  refine ⟨_, rfl, _, rfl, true, rfl, ?_⟩
  refine ⟨_, rfl, _, rfl, d, _, rfl, .inl (sq (sm23 _ _ ed)), rfl, _, rfl, ite2 (fun c => absurd c (by rw [rlen, hdl, k2, decide_eq_true rfl]; decide)) (fun _ => ?_)⟩
  -- found[0][0].append(1)
  obtain ⟨r0, rr, er0⟩ : ∃ r0 rr, rings n = r0 :: rr := by
    cases h : rings n with
    | nil => exact absurd h k3
    | cons r0 rr => exact ⟨r0, rr, rfl⟩
  have hr0 : r0 ∈ rings n := by rw [er0]; exact List.mem_cons_self ..
  obtain ⟨k7, k8, k9⟩ := k5 r0 hr0
  have hf0 : 0 < fs.length := by rw [hfl, er0]; exact Nat.succ_pos _
  have gf0 : fs[0]? = some fs[0] := List.getElem?_eq_getElem hf0
  obtain ⟨m, bs, hm, ⟨nr, nrf⟩, ⟨er, hbs⟩, nbs⟩ := hF3.get gf0
  rw [er0] at hm
  obtain rfl : r0 = m := Option.some.inj hm
  have hbl := hbs.len
  have hb0 : 0 < bs.length := by
    rw [hbl]
    exact List.length_pos_iff.mpr k7
  have gb0 : bs[0]? = some bs[0] := List.getElem?_eq_getElem hb0
  obtain ⟨x, hx, ex⟩ := hbs.get gb0
  obtain ⟨nb, nbf⟩ := nbs _ (List.mem_of_getElem? gb0)
  have hxl := k9 x (List.mem_of_getElem? hx)
  generalize fs[0] = r at *
  generalize bs[0] = b at *
  have nrb : r ≠ b := ref_ne_int er ex hb0
  refine ⟨_, rfl, f, _, _, .ref r, rfl, rfl, sq ef3, atI_nat (j := 0) (ref_get gf0), r, _, _, .ref b, rfl, rfl, sq er, atI_nat (j := 0) (ref_get gb0), .inl ⟨rfl, _, sq ex⟩, b, _, _, rfl, rfl, ex, by rw [nlen]; exact smallL (by omega), ?_⟩
  have sm4 : Same H1 (upd H3 b (.lst (x.map V.int ++ [V.int 1]))) := same_mut sm23 nb _
  have er4 : (upd H3 b (.lst (x.map V.int ++ [V.int 1]))) r = some (.lst (bs.map V.ref)) := by rw [upd_ne nrb]; exact er
  have ef4 : (upd H3 b (.lst (x.map V.int ++ [V.int 1]))) f = some (.lst (fs.map V.ref)) := by rw [upd_ne nbf.symm]; exact ef3
  generalize upd H3 b (.lst (x.map V.int ++ [V.int 1])) = H4 at *
  -- found[0].append([1])
  refine ⟨_, rfl, f, _, _, .ref r, rfl, rfl, sq ef4, atI_nat (j := 0) (ref_get gf0), .inl ⟨rfl, _, sq er4⟩, (by show 1 ≤ sizeLine; decide), fun p np => ?_⟩
  have sp := same_new np (.lst [V.int 1])
  refine ⟨r, _, _, rfl, rfl, sp _ _ er4, by rw [rlen]; exact smallL (by omega), ?_⟩
  have sm5 := same_mut (sm4.trans sp) nr (.lst (bs.map V.ref ++ [V.ref p]))
  have ef5 : (upd (upd H4 p (.lst [V.int 1])) r (.lst (bs.map V.ref ++ [V.ref p]))) f = some (.lst (fs.map V.ref)) := by rw [upd_ne nrf.symm]; exact sp _ _ ef4
  generalize upd (upd H4 p (.lst [V.int 1])) r (.lst (bs.map V.ref ++ [V.ref p])) = H5 at *
  -- found.append([])
  refine ⟨_, rfl, .inl ⟨rfl, _, sq ef5⟩, Nat.zero_le _, fun p2 np2 => ?_⟩
  have sp2 := same_new np2 (.lst ([] : List V))
  refine ⟨f, _, _, rfl, rfl, sp2 _ _ ef5, by rw [rlen]; exact smallL (by omega), ?_⟩
  have sm6 := same_mut (sm5.trans sp2) nf (.lst (fs.map V.ref ++ [V.ref p2]))
  refine ⟨_, rfl, n, congrArg (fun z => [V.int z]) en, n1, by omega, fun H7 g gs sm7 ng eg hG => ?_⟩
  have sm17 := sm6.trans sm7
  exact ⟨_, rfl, g, d, gs, ds, _, _, _, rfl, eg, sm17 _ _ ed, hG, hD.same sm17, k6, fun H8 _ => q H8⟩

end

/-! ### the head: facts by names, the run -/
def dd_turned_by : He.DefD := ⟨("turned_by", none), "turned_by", "turned_by", defArgs s_turned_by, defBody s_turned_by, defScope s_turned_by, [], []⟩
def dd_stair_of : He.DefD := ⟨("stair_of", none), "stair_of", "stair_of", defArgs s_stair_of, defBody s_stair_of, defScope s_stair_of, [], []⟩
def dd_setting_by : He.DefD := ⟨("setting_by", none), "setting_by", "setting_by", defArgs s_setting_by, defBody s_setting_by, defScope s_setting_by, [], []⟩
def dd_ring_by : He.DefD := ⟨("ring_by", none), "ring_by", "ring_by", defArgs s_ring_by, defBody s_ring_by, defScope s_ring_by, [], []⟩
def dd_must_count : He.DefD := ⟨("must_count", none), "must_count", "must_count", defArgs s_must_count, defBody s_must_count, defScope s_must_count, [], []⟩
def dd_chosen : He.DefD := ⟨("chosen", none), "chosen", "chosen", defArgs s_chosen, defBody s_chosen, defScope s_chosen, [], []⟩
def dd_common : He.DefD := ⟨("common", none), "common", "common", defArgs s_common, defBody s_common, defScope s_common, [], []⟩
def dd_rings_many : He.DefD := ⟨("rings_many", none), "rings_many", "rings_many", defArgs s_rings_many, defBody s_rings_many, defScope s_rings_many, [], []⟩
def dd_all_marks : He.DefD := ⟨("all_marks", none), "all_marks", "all_marks", defArgs s_all_marks, defBody s_all_marks, defScope s_all_marks, [], []⟩
def dd_rings_of : He.DefD := ⟨("rings_of", none), "rings_of", "rings_of", defArgs s_rings_of, defBody s_rings_of, defScope s_rings_of, [], []⟩
def dd_law_cell : He.DefD := ⟨("_law_cell", none), "_law_cell", "_law_cell", defArgs s_law_cell, defBody s_law_cell, defScope s_law_cell, [], []⟩
def dd_law_whole : He.DefD := ⟨("_law_whole", none), "_law_whole", "_law_whole", defArgs s_law_whole, defBody s_law_whole, defScope s_law_whole, [], []⟩
def dd_law_ints : He.DefD := ⟨("_law_ints", none), "_law_ints", "_law_ints", defArgs s_law_ints, defBody s_law_ints, defScope s_law_ints, [], []⟩
def dd_law_lists_like : He.DefD := ⟨("_law_lists_like", none), "_law_lists_like", "_law_lists_like", defArgs s_law_lists_like, defBody s_law_lists_like, defScope s_law_lists_like, [], []⟩
def dd_law_next : He.DefD := ⟨("_law_next", none), "_law_next", "_law_next", defArgs s_law_next, defBody s_law_next, defScope s_law_next, [], []⟩
def dd_law_fallen : He.DefD := ⟨("_law_fallen", none), "_law_fallen", "_law_fallen", defArgs s_law_fallen, defBody s_law_fallen, defScope s_law_fallen, [], []⟩
def dd_law_turned : He.DefD := ⟨("_law_turned", none), "_law_turned", "_law_turned", defArgs s_law_turned, defBody s_law_turned, defScope s_law_turned, [], []⟩
def dd_law_stair : He.DefD := ⟨("_law_stair", none), "_law_stair", "_law_stair", defArgs s_law_stair, defBody s_law_stair, defScope s_law_stair, [], []⟩
def dd_law_by_marks : He.DefD := ⟨("_law_by_marks", none), "_law_by_marks", "_law_by_marks", defArgs s_law_by_marks, defBody s_law_by_marks, defScope s_law_by_marks, [], []⟩
def dd_law_drawn_marks : He.DefD := ⟨("_law_drawn_marks", none), "_law_drawn_marks", "_law_drawn_marks", defArgs s_law_drawn_marks, defBody s_law_drawn_marks, defScope s_law_drawn_marks, [], []⟩
def dd_law_elder : He.DefD := ⟨("_law_elder", none), "_law_elder", "_law_elder", defArgs s_law_elder, defBody s_law_elder, defScope s_law_elder, [], []⟩
def dd_law_drawn_piles : He.DefD := ⟨("_law_drawn_piles", none), "_law_drawn_piles", "_law_drawn_piles", defArgs s_law_drawn_piles, defBody s_law_drawn_piles, defScope s_law_drawn_piles, [], []⟩
def dd_law_setting : He.DefD := ⟨("_law_setting", none), "_law_setting", "_law_setting", defArgs s_law_setting, defBody s_law_setting, defScope s_law_setting, [], []⟩
def dd_law_all_marks : He.DefD := ⟨("_law_all_marks", none), "_law_all_marks", "_law_all_marks", defArgs s_law_all_marks, defBody s_law_all_marks, defScope s_law_all_marks, [], []⟩
def dd_law_rings : He.DefD := ⟨("_law_rings", none), "_law_rings", "_law_rings", defArgs s_law_rings, defBody s_law_rings, defScope s_law_rings, [], []⟩
def dd_law_rings_like : He.DefD := ⟨("_law_rings_like", none), "_law_rings_like", "_law_rings_like", defArgs s_law_rings_like, defBody s_law_rings_like, defScope s_law_rings_like, [], []⟩
def dd_law : He.DefD := ⟨("law", none), "law", "law", defArgs s_law, defBody s_law, defScope s_law, [], []⟩
def fn : List He.DefD := [dd_turned_by, dd_stair_of, dd_setting_by, dd_ring_by, dd_must_count, dd_chosen, dd_common, dd_rings_many, dd_all_marks, dd_rings_of, dd_law_cell, dd_law_whole, dd_law_ints, dd_law_lists_like, dd_law_next, dd_law_fallen, dd_law_turned, dd_law_stair, dd_law_by_marks, dd_law_drawn_marks, dd_law_elder, dd_law_drawn_piles, dd_law_setting, dd_law_all_marks, dd_law_rings, dd_law_rings_like, dd_law]
def fa : List He.Fa := [.glo "turned_by", .glo "stair_of", .glo "setting_by", .glo "ring_by", .glo "must_count", .glo "chosen", .glo "common", .glo "rings_many", .glo "all_marks", .glo "rings_of", .glo "_law_cell", .glo "_law_whole", .glo "_law_ints", .glo "_law_lists_like", .glo "_law_next", .glo "_law_fallen", .glo "_law_turned", .glo "_law_stair", .glo "_law_by_marks", .glo "_law_drawn_marks", .glo "_law_elder", .glo "_law_drawn_piles", .glo "_law_setting", .glo "_law_all_marks", .glo "_law_rings", .glo "_law_rings_like", .glo "law", .free "bool", .free "int", .free "isinstance", .free "len", .free "list", .free "max", .free "min", .free "range", .free "reversed", .free "sorted", .free "tuple", .free "zip"]
abbrev R : PySem.W.OpenRow := PySem.W.OpenLaw.row PySem.Challenge.rw_pilewheel_k14_all_rings
abbrev hk : PySem.W.Hook := He.hookD 4 fa fn
def ob (s : PySem.W.SharedT) : He.AlD := He.obsDG 4 fa fn (HandSHeadRun.getT s)
theorem ob_eq (s : PySem.W.SharedT) : ob s = hk.obs s.abs := He.obsDG_eq (HandSHeadRun.getT_eq s)
def loose : List PySem.Str := [("PileError" : PySem.Str), ("NoNumber" : PySem.Str), ("turned_by" : PySem.Str), ("stair_of" : PySem.Str), ("setting_by" : PySem.Str), ("ring_by" : PySem.Str), ("must_count" : PySem.Str), ("chosen" : PySem.Str), ("common" : PySem.Str), ("rings_many" : PySem.Str), ("all_marks" : PySem.Str), ("rings_of" : PySem.Str), ("_law_cell" : PySem.Str), ("_law_whole" : PySem.Str), ("_law_ints" : PySem.Str), ("_law_lists_like" : PySem.Str), ("_law_next" : PySem.Str), ("_law_fallen" : PySem.Str), ("_law_turned" : PySem.Str), ("_law_stair" : PySem.Str), ("_law_by_marks" : PySem.Str), ("_law_drawn_marks" : PySem.Str), ("_law_elder" : PySem.Str), ("_law_drawn_piles" : PySem.Str), ("_law_setting" : PySem.Str), ("_law_all_marks" : PySem.Str), ("_law_rings" : PySem.Str), ("_law_rings_like" : PySem.Str)]
theorem run (w : World) : HandSHeadRun.RunEq R (PySem.W.view R.prog [33]) hk ob 4000 loose w := by
  intro os
  kernel_rfl
theorem facts {P : Program} {w : World} {K : PySem.W.Frag} {h : Heap} {mg : Str → Option Value} {f : Addr} (X : K.In h) (G : h.Ns mainGlobals mg) (hfa : mg ("law" : Str) = some (.ref f)) (c : He.SaysD fa fn K) :
    ∃ fd : FuncData, (∀ (s : Shared) (v : Value), BindsTo s fd ⟨[v], []⟩ [("script", v)]) ∧ ∀ base : Heap, K.In base → base.Ns mainGlobals mg → FnOk P w K mg base CX0 22 f fd ["script"] (spLaw K) := by
  have T : Txt K mg := {
      d_turned_by := by
        obtain ⟨fd, F⟩ := c.def_ 0 (d := dd_turned_by) rfl
        exact ⟨fd, F, He.glo_ok X G (c.fact 0 (f := .glo "turned_by") rfl)⟩,
      d_stair_of := by
        obtain ⟨fd, F⟩ := c.def_ 1 (d := dd_stair_of) rfl
        exact ⟨fd, F, He.glo_ok X G (c.fact 1 (f := .glo "stair_of") rfl)⟩,
      d_setting_by := by
        obtain ⟨fd, F⟩ := c.def_ 2 (d := dd_setting_by) rfl
        exact ⟨fd, F, He.glo_ok X G (c.fact 2 (f := .glo "setting_by") rfl)⟩,
      d_ring_by := by
        obtain ⟨fd, F⟩ := c.def_ 3 (d := dd_ring_by) rfl
        exact ⟨fd, F, He.glo_ok X G (c.fact 3 (f := .glo "ring_by") rfl)⟩,
      d_must_count := by
        obtain ⟨fd, F⟩ := c.def_ 4 (d := dd_must_count) rfl
        exact ⟨fd, F, He.glo_ok X G (c.fact 4 (f := .glo "must_count") rfl)⟩,
      d_chosen := by
        obtain ⟨fd, F⟩ := c.def_ 5 (d := dd_chosen) rfl
        exact ⟨fd, F, He.glo_ok X G (c.fact 5 (f := .glo "chosen") rfl)⟩,
      d_common := by
        obtain ⟨fd, F⟩ := c.def_ 6 (d := dd_common) rfl
        exact ⟨fd, F, He.glo_ok X G (c.fact 6 (f := .glo "common") rfl)⟩,
      d_rings_many := by
        obtain ⟨fd, F⟩ := c.def_ 7 (d := dd_rings_many) rfl
        exact ⟨fd, F, He.glo_ok X G (c.fact 7 (f := .glo "rings_many") rfl)⟩,
      d_all_marks := by
        obtain ⟨fd, F⟩ := c.def_ 8 (d := dd_all_marks) rfl
        exact ⟨fd, F, He.glo_ok X G (c.fact 8 (f := .glo "all_marks") rfl)⟩,
      d_rings_of := by
        obtain ⟨fd, F⟩ := c.def_ 9 (d := dd_rings_of) rfl
        exact ⟨fd, F, He.glo_ok X G (c.fact 9 (f := .glo "rings_of") rfl)⟩,
      d_law_cell := by
        obtain ⟨fd, F⟩ := c.def_ 10 (d := dd_law_cell) rfl
        exact ⟨fd, F, He.glo_ok X G (c.fact 10 (f := .glo "_law_cell") rfl)⟩,
      d_law_whole := by
        obtain ⟨fd, F⟩ := c.def_ 11 (d := dd_law_whole) rfl
        exact ⟨fd, F, He.glo_ok X G (c.fact 11 (f := .glo "_law_whole") rfl)⟩,
      d_law_ints := by
        obtain ⟨fd, F⟩ := c.def_ 12 (d := dd_law_ints) rfl
        exact ⟨fd, F, He.glo_ok X G (c.fact 12 (f := .glo "_law_ints") rfl)⟩,
      d_law_lists_like := by
        obtain ⟨fd, F⟩ := c.def_ 13 (d := dd_law_lists_like) rfl
        exact ⟨fd, F, He.glo_ok X G (c.fact 13 (f := .glo "_law_lists_like") rfl)⟩,
      d_law_next := by
        obtain ⟨fd, F⟩ := c.def_ 14 (d := dd_law_next) rfl
        exact ⟨fd, F, He.glo_ok X G (c.fact 14 (f := .glo "_law_next") rfl)⟩,
      d_law_fallen := by
        obtain ⟨fd, F⟩ := c.def_ 15 (d := dd_law_fallen) rfl
        exact ⟨fd, F, He.glo_ok X G (c.fact 15 (f := .glo "_law_fallen") rfl)⟩,
      d_law_turned := by
        obtain ⟨fd, F⟩ := c.def_ 16 (d := dd_law_turned) rfl
        exact ⟨fd, F, He.glo_ok X G (c.fact 16 (f := .glo "_law_turned") rfl)⟩,
      d_law_stair := by
        obtain ⟨fd, F⟩ := c.def_ 17 (d := dd_law_stair) rfl
        exact ⟨fd, F, He.glo_ok X G (c.fact 17 (f := .glo "_law_stair") rfl)⟩,
      d_law_by_marks := by
        obtain ⟨fd, F⟩ := c.def_ 18 (d := dd_law_by_marks) rfl
        exact ⟨fd, F, He.glo_ok X G (c.fact 18 (f := .glo "_law_by_marks") rfl)⟩,
      d_law_drawn_marks := by
        obtain ⟨fd, F⟩ := c.def_ 19 (d := dd_law_drawn_marks) rfl
        exact ⟨fd, F, He.glo_ok X G (c.fact 19 (f := .glo "_law_drawn_marks") rfl)⟩,
      d_law_elder := by
        obtain ⟨fd, F⟩ := c.def_ 20 (d := dd_law_elder) rfl
        exact ⟨fd, F, He.glo_ok X G (c.fact 20 (f := .glo "_law_elder") rfl)⟩,
      d_law_drawn_piles := by
        obtain ⟨fd, F⟩ := c.def_ 21 (d := dd_law_drawn_piles) rfl
        exact ⟨fd, F, He.glo_ok X G (c.fact 21 (f := .glo "_law_drawn_piles") rfl)⟩,
      d_law_setting := by
        obtain ⟨fd, F⟩ := c.def_ 22 (d := dd_law_setting) rfl
        exact ⟨fd, F, He.glo_ok X G (c.fact 22 (f := .glo "_law_setting") rfl)⟩,
      d_law_all_marks := by
        obtain ⟨fd, F⟩ := c.def_ 23 (d := dd_law_all_marks) rfl
        exact ⟨fd, F, He.glo_ok X G (c.fact 23 (f := .glo "_law_all_marks") rfl)⟩,
      d_law_rings := by
        obtain ⟨fd, F⟩ := c.def_ 24 (d := dd_law_rings) rfl
        exact ⟨fd, F, He.glo_ok X G (c.fact 24 (f := .glo "_law_rings") rfl)⟩,
      d_law_rings_like := by
        obtain ⟨fd, F⟩ := c.def_ 25 (d := dd_law_rings_like) rfl
        exact ⟨fd, F, He.glo_ok X G (c.fact 25 (f := .glo "_law_rings_like") rfl)⟩,
      m_bool := He.free_ok X G (c.fact 27 (f := .free "bool") rfl),
      m_int := He.free_ok X G (c.fact 28 (f := .free "int") rfl),
      m_isinstance := He.free_ok X G (c.fact 29 (f := .free "isinstance") rfl),
      m_len := He.free_ok X G (c.fact 30 (f := .free "len") rfl),
      m_list := He.free_ok X G (c.fact 31 (f := .free "list") rfl),
      m_max := He.free_ok X G (c.fact 32 (f := .free "max") rfl),
      m_min := He.free_ok X G (c.fact 33 (f := .free "min") rfl),
      m_range := He.free_ok X G (c.fact 34 (f := .free "range") rfl),
      m_reversed := He.free_ok X G (c.fact 35 (f := .free "reversed") rfl),
      m_sorted := He.free_ok X G (c.fact 36 (f := .free "sorted") rfl),
      m_tuple := He.free_ok X G (c.fact 37 (f := .free "tuple") rfl),
      m_zip := He.free_ok X G (c.fact 38 (f := .free "zip") rfl) }
  obtain ⟨fd, F⟩ := c.def_ 26 (d := dd_law) rfl
  have e := hfa.symm.trans (He.glo_ok X G (c.fact 26 (f := .glo "law") rfl))
  cases e
  have b := FunD.bindsA (ps := ["script"]) F fun _ _ _ _ _ _ us hl => match us, hl with | [_], _ => rfl
  exact ⟨fd, fun s v => b s [v] rfl, fun base _ _ => ok_law_at T F⟩

end PW
open PySem PySem.W PySem.Calls PyProof.Rows
set_option maxRecDepth 100000 in
set_option maxHeartbeats 0 in
theorem PySem.Challenge.cw_pilewheel_k14_all_rings_holds : PySem.Challenge.rw_pilewheel_k14_all_rings.Holds := by
  w_on; o_law
  refine HandSHeadRun.head_any (r := OpenLaw.row PySem.Challenge.rw_pilewheel_k14_all_rings) (q := view (OpenLaw.row PySem.Challenge.rw_pilewheel_k14_all_rings).prog [33]) (H := PW.hk) (ob := PW.ob) (M := 4000) (loose := PW.loose) (d := HandSHeadRun.topDef (OpenLaw.row PySem.Challenge.rw_pilewheel_k14_all_rings).prog 33) (kwd := []) PW.ob_eq
    (by kernel_rfl) (fun s => by kernel_rfl) PW.run (by kernel_rfl) (by kernel_rfl) (by kernel_rfl) (by rfl) (by first | assumption | decide +kernel) (by decide +kernel) ⟨rfl, rfl, rfl, rfl, rfl, by decide +kernel⟩ ?hw ?hc
  case hw => w_witness2
  case hc =>
    refine L2.walk_ofE (l := PySem.Challenge.rw_pilewheel_k14_all_rings) (n := 63) (k := 22) (x := "script") (CX := L2.CX0) rfl (by decide) (by kernel_rfl) ⟨rfl, by decide, by decide⟩ ?F (fun _ _ _ _ z => z)
    intro w mg fa h Y G hmg0
    obtain ⟨K, KX, c⟩ := Y
    have hmg : mg ("law" : PySem.Str) = some (.ref fa) := by
      have e : (HandSHeadRun.topDef (OpenLaw.row PySem.Challenge.rw_pilewheel_k14_all_rings).prog 33).name = ("law" : PySem.Str) := by kernel_rfl
      rw [← e]
      exact hmg0
    obtain ⟨fd, hb, hF⟩ := PW.facts (P := (PySem.Challenge.rw_pilewheel_k14_all_rings).prog) (w := w) KX G hmg c
    exact ⟨K, fd, PW.spLaw K, KX, hb, fun H a ns hl _ hS => ⟨a, ns, rfl, hS, hl, fun _ => rfl⟩, hF⟩
