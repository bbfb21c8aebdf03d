import PyProof.Rows.All
import Wide.All
import OpenK.AllK
import Wide.FinOn
import KE.KStateDown
import Lean
import HandS.ForMost
import HandS.Exc
import HandS.More
import HandS.WordsExc
import HandS.Defaults
import HandS.Wide
import HandS.SortInts
import HandS.Rev
import HandS.IsInst
import HandS.Deep
import HandS.Zip
import KE.SortData
import KE.DataMinMax
import KE.DataCmp
import HandS.Head0
import HandS.Head1
import HandS.Head2
import HandS.HeadEnd
import HandS.HeadHook1
import HandS.HeadHook2
import PySem.Challenge.RW_pilewheel_k12_whole_elders
set_option Elab.async false
set_option linter.all false
set_option maxRecDepth 100000
set_option maxHeartbeats 4000000
namespace PW
open PySem PySem.Spec PyProof.Rows L2

/-! ### a def that may be called -/
structure Cal (P : Program) (w : World) (K : PySem.W.Frag) (mg : Str → Option Value) (base : Heap) (CX : CXT) (k : Nat) (x : Str) (ps : List Str) (sp : Sp) : Prop where
  ex : ∃ (f : Addr) (fd : FuncData), FnOk P w K mg base CX k f fd ps sp ∧ mg x = some (.ref f) ∧ PySem.W.keepIn K (.ref f) = true ∧ Binds K fd ps []
def DefAt (K : PySem.W.Frag) (mg : Str → Option Value) (x : Str) (st : Stmt) : Prop :=
  ∃ fd, FunD K x x (defArgs st) (defBody st) (defScope st) [] [] (He.ga K x) fd ∧ mg x = some (.ref (He.ga K x))
theorem pe_callF {X : Cx} {k : Nat} {x : Str} {ps : List Str} {sp : Sp} {e : Expr} {es : List Expr} {t : TA} {p pos : Pos} (C : Cal X.prog X.w X.K X.mg X.base CX0 k x ps sp) (hr : Room k X.A) (ha : PA X (e :: es) t) (hg : Gl X x := by rfl)
    (hdb : (x == ("__debug__" : Str)) = false := by decide) (he : starEach (e :: es) X.env = (false, eval e X.env) :: starEach es X.env := by rfl) (hpl : (backTo pos (starEach es X.env)).any (·.1) = false := by rfl) :
    PE X (.Call (.Name x p) (e :: es) [] pos) (tCall sp [] E0 t) := by
  obtain ⟨f, fd, F, hm, hk, hb⟩ := C.ex
  exact pe_call F hr hg hm hk hb .nil pass0 ha hdb he hpl
theorem pe_globX {X : Cx} {x : Str} {v : V} {pos : Pos} (h : ∃ u, X.mg x = some u ∧ RelV v u) (hg : Gl X x := by rfl) (hd : (x == ("__debug__" : Str)) = false := by decide) : PE X (.Name x pos) (tC v) := by
  obtain ⟨u, hm, r⟩ := h
  exact pe_glob hg hm r hd
theorem cal_mk {P : Program} {w : World} {K : PySem.W.Frag} {mg : Str → Option Value} {base : Heap} {x : Str} {st : Stmt} {N ps : List Str} {k : Nat} {sp : Sp} (D : DefAt K mg x st) (S : FnScope N ps (defScope st)) (len : ∀ vs H Q E, sp vs H Q E → vs.length = ps.length)
    (hb : ∀ (kV doc pm : Value) (an : Option Addr) (cdv ct : Value) (us : List Value), us.length = ps.length → bindArgs (PySem.W.fnOf x x (defArgs st) (defBody st) (defScope st) .none kV doc pm an cdv ct) ⟨us, []⟩ = pure (ps.zip us))
    (hbody : ∀ (f : Addr) (cdv : Value) (A : Around) (outer : List Env) (s : Shared) (H : Hp) (vs : List V) (Q : VK) (E : XK), Room k (A.deeper (envOfC x (defScope st) s.heap.objs.size f cdv)) → sp vs H Q E →
      ∃ t, PSs (cxOf CX0 P w K mg base N x (defScope st) f cdv A outer s H E).nox (defBody st) t ∧ t { nx := fun _ H' => Q .non H', rt := Q } (start N vs) H) : Cal P w K mg base CX0 (k + 1) x ps sp := by
  obtain ⟨fd, F, g⟩ := D
  refine ⟨⟨_, fd, F.ok S len (fun cdv A outer s H vs Q E hr h => ?_), g, F.kp, F.bindsN hb⟩⟩
  obtain ⟨t, h1, h2⟩ := hbody _ cdv A outer s H vs Q E hr h
  exact ⟨t, h1.nox, h2⟩
/-! ### heaps -/
theorem same_new {H : Hp} {p : Addr} (h : H p = none) (o : HO) : Same H (upd H p o) := fun b u q => by rw [upd_ne (ne_of_none q h)]; exact q
theorem same_mut {H H' : Hp} {p : Addr} (e : Same H H') (h : H p = none) (o : HO) : Same H (upd H' p o) := fun b u q => by
  rw [upd_ne (ne_of_none q h)]
  exact e b u q
theorem small {n : Nat} (h : n ≤ 100000) : n ≤ sizeLine := Nat.le_trans h (by decide)
theorem smallL {n : Nat} (h : n ≤ 100000) : n < sizeLine := Nat.lt_of_le_of_lt h (by decide)
/-- a list of ints that may be changed; the script -/
abbrev IL (H : Hp) (a : Addr) (ns : List Int) : Prop := H a = some (.lst (ns.map V.int))
abbrev SL (K : PySem.W.Frag) (H : Hp) (a : Addr) (ns : List Int) : Prop := SqL K H a (ns.map V.int)
/-- a new list of ints -/
abbrev NL (Q : VK) (H : Hp) (ns : List Int) : Prop := ∀ (H' : Hp) (p : Addr), Same H H' → H p = none → IL H' p ns → Q (.ref p) H'
theorem sq {K : PySem.W.Frag} {H : Hp} {a : Addr} {xs : List V} (h : H a = some (.lst xs)) : SqL K H a xs := .inl (.inl h)
theorem nlen {ns : List Int} : (ns.map V.int).length = ns.length := List.length_map _
theorem take_snoc {α : Type} {l : List α} {i : Nat} {x : α} (h : l[i]? = some x) : l.take (i + 1) = l.take i ++ [x] := by
  rw [List.take_add_one, h] <;> rfl
theorem cut_to (xs : List V) {j : Nat} (h : j ≤ xs.length) : cutV xs none (some (j : Int)) = xs.take j := by
  unfold cutV
  rw [HT.sIx_none, HT.sIx_nat, Nat.min_eq_left h] <;> rfl
theorem cut_from (xs : List V) {j : Nat} (h : j ≤ xs.length) : cutV xs (some (j : Int)) none = xs.drop j := by
  unfold cutV
  rw [HT.sIx_none, HT.sIx_nat, Nat.min_eq_left h]
  exact List.take_of_length_le (by rw [List.length_drop]; exact Nat.le_refl _)
theorem get_int {ns : List Int} {i : Nat} {x : V} (h : (ns.map V.int)[i]? = some x) : ∃ z, ns[i]? = some z ∧ x = .int z := by
  rw [List.getElem?_map] at h
  cases e : ns[i]? with
  | none => rw [e] at h; cases h
  | some z => rw [e] at h; exact ⟨z, rfl, (Option.some.inj h).symm⟩
theorem int_get {ns : List Int} {i : Nat} {z : Int} (h : ns[i]? = some z) : (ns.map V.int)[i]? = some (.int z) := by
  rw [List.getElem?_map, h] <;> rfl
/-- list(reversed(e)), e a list -/
def tListRev (K : PySem.W.Frag) (te : TE) : TE := fun σ H Q => te σ H fun v H1 => ∃ (a : Addr) (xs : List V), v = .ref a ∧ SqL K H1 a xs ∧ ∀ q, H1 q = none → Q (.ref q) (upd H1 q (.lst xs.reverse))
/-! ### rules within a comprehension: the written part by name -/
theorem ix_listK {X : Cx} (K : PySem.W.Frag) (h : X.K = K := by rfl) : IxR X (rIxL K) := by
  subst h
  exact ix_list
theorem call_len_seqK {X : Cx} (K : PySem.W.Frag) (h : X.K = K := by rfl) : CallR X (.builtin "len") (fun xs H Q => ∃ p ys, xs = [.ref p] ∧ (SqL K H p ys ∨ SqT K H p ys) ∧ Q (.int ys.length) H) := by
  subst h
  exact call_len_seq
theorem op_in_seqK {X : Cx} (K : PySem.W.Frag) (h : X.K = K := by rfl) : OpR X (compareOp .In) (rIn K false) := by
  subst h
  exact op_in_seq
theorem op_notIn_seqK {X : Cx} (K : PySem.W.Frag) (h : X.K = K := by rfl) : OpR X (compareOp .NotIn) (rIn K true) := by
  subst h
  exact op_notIn_seq
theorem sl_listK {X : Cx} (K : PySem.W.Frag) (h : X.K = K := by rfl) : SlR X (rSlL K) := by
  subst h
  exact sl_list
theorem hu65 {A : Around} {k : Nat} (r : Room k A) : A.units + 65 < cLine := by
  have := r.un
  omega
theorem call_list_ofK {X : Cx} (K : PySem.W.Frag) (h : X.K = K := by rfl) : CallR X (.type "list") (fun xs H Q => ∃ p ys, xs = [.ref p] ∧ (SqL K H p ys ∨ SqT K H p ys) ∧ ∀ l, H l = none → Q (.ref l) (upd H l (.lst ys))) := by
  subst h
  exact call_list_of

/-! ### list(reversed(e)) -/
section
variable {prog : Program} {w : World} {A : Around} {E : Value → Shared → Prop} {s : Shared} {R : Result → Shared → Prop}
theorem ext_rev (hh : A.handled = none) {it l : Addr} {items : Array Value} (hit : s.heap.IsRevIter it l ((items.size : Int) - 1)) (hl : s.heap.IsList l items) (hne : l ≠ it) (hn : items.size ≤ sizeLine) (S : Addr) (res : Value) (c0 : Nat)
    (hS : s.heap.get? S = some { cls := .type "list", data := .seq #[] c0 }) (hSi : S ≠ it) (hSl : S ≠ l)
    (hR : ∀ (h' : Heap) (tk : Nat) (acc' : Array Value) (c' : Nat), (∀ b o, b ≠ S → b ≠ it → s.heap.get? b = some o → h'.get? b = some o) → h'.get? S = some { cls := .type "list", dict := none, data := .seq acc' c', slots := #[] } →
      ItemsOf (fun i v => items[items.size - 1 - i]? = some v) acc' items.size → R (.ok (.ret res)) { s with heap := h', toks := tk }) :
    wpAny (model prog w) A.in1 (Builtin.List.listExtendWith (.ref S) (.ref it) res)
      (fun fin s' => match fin with | .done f => R (.ok f) s' | .again c' => c'.quiet = true ∧ codeAny (model prog w) A c' R s') (fun e s' => R (.error e) s') s := by
  have W := (Walks.listRev (prog := prog) (w := w) (A := A.in1) hh it l hne items).toS
  have hSf : S ∉ [it, l] := by simp only [List.mem_cons, List.not_mem_nil, or_false, not_or]; exact ⟨hSi, hSl⟩
  have hT : s.TypeIs (.ref it) "list_reverseiterator" := Heap.IsRevIter.typeIs hit
  have h1 : Builtin.List.listSameRef (.ref S) (.ref it) = false := by simp [Builtin.List.listSameRef, hSi]
  unfold Builtin.List.listExtendWith
  refine wpAny_bind (wpAny_typeOf hT ?_)
  rw [if_neg (by rw [h1]; decide)]
  refine wpAny_bind (wpAny_pyIter_revIter (s := s) hit ?_)
  refine wpAny_bind (wpAny_holding ?_)
  unfold Builtin.List.listLengthHint
  refine wpAny_bind (wpAny_specialOf hT RT.nolen_lri ?_)
  show wpAny _ A.in1 (specialOf (Value.ref it) (Str.ofString "__length_hint__") >>= _) _ _ _
  refine wpAny_bind (wpAny_specialOf hT RT.hint_lri ?_)
  generalize hid : ("list_reverseiterator.__length_hint__" : String) = id0
  wp_delta
  rw [show splitId id0 = some ("list_reverseiterator", "__length_hint__") from by subst hid; decide +kernel]
  subst hid
  refine wpAny_bind (wpAny_isInstance (b := true) hT (by rw [isSubtype_type]; kernel_rfl) ?_)
  refine wpAny_pure ?_
  rw [if_neg (by decide)]
  have e0 : ((items.size : Nat) : Int) - 1 - ((0 : Nat) : Int) = (items.size : Int) - 1 := by omega
  refine wpAny_pure ⟨plainId_quiet F.plain_extend_loop _, codeAny_extend_loopS W hn _ hSf _ items.size 0 _ _ _ rfl (Nat.zero_le _) ⟨Nat.zero_le _, by rw [e0]; exact hit, hl⟩ hS (ItemsOf.nil _) fun s' acc' c' hm hS' hacc => ?_⟩
  rw [Moved.eq_with hm]
  refine hR s'.heap s'.toks acc' c' (fun b o hb hb2 e => hm.heap b o (fun hmem => ?_) e) hS' hacc
  rcases List.mem_cons.mp hmem with e' | hmem
  · exact hb e'
  · exact hb2 (List.mem_singleton.mp hmem)
theorem init_rev (hh : A.handled = none) {it l : Addr} {items : Array Value} (hit : s.heap.IsRevIter it l ((items.size : Int) - 1)) (hl : s.heap.IsList l items) (hne : l ≠ it) (hn : items.size ≤ sizeLine) (S : Addr)
    (hS : s.heap.get? S = some { cls := .type "list", data := .seq #[] }) (hSi : S ≠ it) (hSl : S ≠ l)
    (hR : ∀ (h' : Heap) (tk : Nat) (acc' : Array Value) (c' : Nat), (∀ b o, b ≠ S → b ≠ it → s.heap.get? b = some o → h'.get? b = some o) → h'.get? S = some { cls := .type "list", dict := none, data := .seq acc' c', slots := #[] } →
      ItemsOf (fun i v => items[items.size - 1 - i]? = some v) acc' items.size → R (.ok (.ret .none)) { s with heap := h', toks := tk }) :
    wpAny (model prog w) A.in1 (Builtin.«list.__init__» ⟨[.ref S, .ref it], []⟩)
      (fun fin s' => match fin with | .done f => R (.ok f) s' | .again c' => c'.quiet = true ∧ codeAny (model prog w) A c' R s') (fun e s' => R (.error e) s') s := by
  show wpAny _ _ (do let old ← Builtin.List.listItems (.ref S); Builtin.List.listUpdate (.ref S) (fun _ => #[]); letGo old.toList.reverse; Builtin.List.listExtendWith (.ref S) (.ref it) .none) _ _ s
  refine wpAny_bind ?_
  unfold Builtin.List.listItems
  refine wpAny_bind (wpAny_seqItems hS rfl (wpAny_pure ?_))
  show wpAny _ _ (updateSeq S (fun _ => #[]) >>= fun _ => letGo (#[] : Array Value).toList.reverse >>= fun _ => Builtin.List.listExtendWith (.ref S) (.ref it) .none) _ _ s
  refine wpAny_bind (wpAny_updateSeq hS rfl ?_)
  have hS₂ := Heap.get?_update_self (Obj.mapSeq (fun _ => (#[] : Array Value))) hS rfl
  have oth : ∀ b o, b ≠ S → s.heap.get? b = some o → (s.heap.update S (Obj.mapSeq (fun _ => (#[] : Array Value)))).get? b = some o :=
    fun b o hb e => (Heap.get?_update_other _ _ (Ne.symm hb)).trans e
  refine wpAny_bind (wpAny_letGo ?_)
  refine ext_rev (s := { s with heap := s.heap.update S (Obj.mapSeq (fun _ => (#[] : Array Value))) }) hh (hit.at fun o e => oth it o (Ne.symm hSi) e) ?_ hne hn S .none _ hS₂ hSi hSl fun h' tk acc' c' hk hS' hacc => ?_
  · obtain ⟨o, e, q⟩ := hl
    exact ⟨o, oth l o (Ne.symm hSl) e, q⟩
  · exact hR h' tk acc' c' (fun b o hb hb2 e => hk b o hb hb2 (oth b o hb e)) hS' hacc
theorem call_list_rev {it l : Addr} {items : Array Value} {Q : Value → Shared → Prop} (hh : A.handled = none) (hit : s.heap.IsRevIter it l ((items.size : Int) - 1)) (hl : s.heap.IsList l items) (hne : l ≠ it) (hn : items.size ≤ sizeLine)
    (hQ : ∀ (h' : Heap) (tk : Nat) (acc' : Array Value) (c' : Nat), (∀ b o, b ≠ it → s.heap.get? b = some o → h'.get? b = some o) →
      h'.get? s.heap.objs.size = some { cls := .type "list", dict := none, data := .seq acc' c', slots := #[] } → ItemsOf (fun i v => items[items.size - 1 - i]? = some v) acc' items.size → Q (.ref s.heap.objs.size) { s with heap := h', toks := tk }) :
    wpAny (model prog w) A (call (.type "list") [.ref it]) Q E s := by
  obtain ⟨oi, hoi, _⟩ := id hit
  obtain ⟨ol, hol, _⟩ := id hl
  refine callType_codes (Q₁ := fun obj s₁ => obj = .ref s.heap.objs.size ∧ s₁ = { s with heap := s.heap.push { cls := .type "list", data := .seq #[] } }) F.called_list (F.typeCall_list_1 _) F.entry_list_init
    (code_list_new _ ⟨rfl, rfl⟩) fun obj s₁ h₁ => ?_
  obtain ⟨rfl, rfl⟩ := h₁
  have hS : (s.heap.push { cls := .type "list", data := .seq #[] }).get? s.heap.objs.size = some { cls := .type "list", data := .seq #[] } := Heap.get?_push_size _ rfl
  refine ⟨⟨_, hS, rfl⟩, F.args_list_init_2 _ _, init_rev (A := A.in1) (s := { s with heap := s.heap.push { cls := .type "list", data := .seq #[] } }) hh (hit.at fun o e => Heap.get?_push_of_some _ e) (hl.push _) hne hn _ hS (Nat.ne_of_gt (Heap.lt_size hoi)) (Nat.ne_of_gt (Heap.lt_size hol)) fun h' tk acc' c' hk hS' hacc => ?_⟩
  exact ⟨rfl, hQ h' tk acc' c' (fun b o hb e => hk b o (Nat.ne_of_lt (Heap.lt_size e)) hb (Heap.get?_push_of_some _ e)) hS' hacc⟩
end
theorem pe_listRev {X : Cx} {e : Expr} {te : TE} {p p2 pos pos2 : Pos} (hc : X.calm = true) (hg : Gl X "list") (hm : X.mg "list" = none) (hg2 : Gl X "reversed") (hm2 : X.mg "reversed" = none) (he : PE X e te)
    (hs : starEach [e] X.env = (false, eval e X.env) :: starEach [] X.env := by rfl)
    (hs2 : starEach [.Call (.Name "reversed" p2) [e] [] pos2] X.env = (false, eval (.Call (.Name "reversed" p2) [e] [] pos2) X.env) :: starEach [] X.env := by rfl) :
    PE X (.Call (.Name "list" p) [.Call (.Name "reversed" p2) [e] [] pos2] [] pos) (tListRev X.K te) := by
  refine ⟨fun pins s σ H Q I h => ?_⟩
  refine Call_ (ld_blt I hg hm PyProof.Rows.boot_list (PyProof.Rows.callWith_type1 (args_cons (Call_ (ld_blt I hg2 hm2 PyProof.Rows.boot_reversed (PyProof.Rows.callWith_type1 (args_cons (thn (he.run pins s σ H _ I h) fun u s1 ⟨v, H1, I1, r1, q1⟩ => args_nil ?_) hs) hs rfl))) hs2) hs2 rfl))
  obtain ⟨a, xs, ev, hq, q⟩ := q1
  subst ev
  obtain rfl : u = Value.ref a := r1
  obtain ⟨its, rv, p', hz⟩ := I1.list hq
  refine call_reversed_list p'.isList (args_nil ?_)
  have k0 : ∀ b o, s1.heap.get? b = some o → (s1.heap.push (revObj a ((its.toArray.size : Int) - 1))).get? b = some o := fun b o e => Heap.get?_push_of_some _ e
  have I2 : Inv X pins σ H1 { s1 with heap := s1.heap.push (revObj a ((its.toArray.size : Int) - 1)) } := I1.kept (t' := s1.toks) k0
  obtain ⟨f0, f1, f2, f3, f4, f5⟩ := I1.fpOk (H' := H1) (b := s1.heap.objs.size) (Nat.le_refl _) (I1.hok.fresh (Nat.le_refl _))
  have hl := p'.isList
  obtain ⟨ol, hol, _⟩ := id hl
  have hne : a ≠ s1.heap.objs.size := Nat.ne_of_lt (Heap.lt_size hol)
  have hn : its.toArray.size ≤ sizeLine := by rw [List.size_toArray, ← rv.length]; exact hz
  refine call_list_rev (s := { s1 with heap := s1.heap.push (revObj a ((its.toArray.size : Int) - 1)) }) (I1.ok.hd hc) ⟨_, Heap.get?_push_size _ rfl, rfl, rfl⟩ (hl.push _) hne hn fun h' tk acc c' hk hS hi => ?_
  have hit0 : H1 s1.heap.objs.size = none := I1.hok.fresh (Nat.le_refl _)
  have hS0 : H1 (s1.heap.push (revObj a ((its.toArray.size : Int) - 1))).objs.size = none := I2.hok.fresh (Nat.le_refl _)
  have hSit : s1.heap.objs.size ≠ (s1.heap.push (revObj a ((its.toArray.size : Int) - 1))).objs.size := by rw [Heap.size_push]; omega
  generalize hS2 : (s1.heap.push (revObj a ((its.toArray.size : Int) - 1))).objs.size = S at *
  have hn3 : ((s1.heap.push (revObj a ((its.toArray.size : Int) - 1))).push { cls := .type "list", data := .seq #[] }).get? S = some { cls := .type "list", data := .seq #[] } := by
    rw [← hS2]
    exact Heap.get?_push_size _ rfl
  have I3 : Inv X pins σ (upd H1 S (.lst [])) { s1 with heap := (s1.heap.push (revObj a ((its.toArray.size : Int) - 1))).push { cls := .type "list", data := .seq #[] } } :=
    I2.laid (t' := s1.toks) (fun b o e => Heap.get?_push_of_some _ e) (Nat.le_of_eq hS2) (show ObjOk X.prog X.w _ _ _ (.lst []) from ⟨Nat.zero_le _, [], 0, .nil, hn3⟩)
  have hn4 := Heap.get?_update_self (fun _ => ({ cls := .type "list", dict := none, data := .seq acc c', slots := #[] } : Obj)) hn3 rfl
  have I4 : Inv X pins σ (upd (upd H1 S (.lst [])) S (.lst xs.reverse)) { s1 with heap := ((s1.heap.push (revObj a ((its.toArray.size : Int) - 1))).push { cls := .type "list", data := .seq #[] }).update S (fun _ => ({ cls := .type "list", dict := none, data := .seq acc c', slots := #[] } : Obj)) } :=
    I3.write (t' := s1.toks) (x := S) (e := S) (by rw [upd_same]; trivial) (.inl rfl) (fun b u hb e => (Heap.get?_update_other _ _ (Ne.symm hb)).trans e) ⟨_, hn4⟩
      (show ObjOk X.prog X.w _ _ _ (.lst xs.reverse) from ⟨by rw [List.length_reverse]; exact hz, acc.toList, c', RT.vals_rev rv hi, by rw [Array.toArray_toList]; exact hn4⟩)
  rw [upd_upd] at I4
  have hnS : (upd H1 S (.lst xs.reverse)) s1.heap.objs.size = none := by rw [upd_ne hSit]; exact hit0
  obtain ⟨f0, f1, f2, f3, f4, f5⟩ := I1.fpOk (H' := upd H1 S (.lst xs.reverse)) (b := s1.heap.objs.size) (Nat.le_refl _) hnS
  have I5 : Inv X pins σ (upd H1 S (.lst xs.reverse)) { s1 with heap := h', toks := tk } := Inv.turned (s := { s1 with heap := ((s1.heap.push (revObj a ((its.toArray.size : Int) - 1))).push { cls := .type "list", data := .seq #[] }).update S (fun _ => ({ cls := .type "list", dict := none, data := .seq acc c', slots := #[] } : Obj)) }) (t' := tk) (it := s1.heap.objs.size) I4 (fun b o hb e => by
    by_cases hbS : b = S
    · subst hbS
      rw [hn4] at e
      rw [hS]
      exact e
    · have e2 := (Heap.get?_update_other _ _ (Ne.symm hbS)).symm.trans e
      rcases Heap.get?_push_cases e2 with ⟨z, _⟩ | z
      · exact absurd (z.trans hS2) hbS
      · exact hk b o hb z) f0 f1 f3 f4 f5
  exact ⟨.ref S, _, I5, rfl, q _ hS0⟩

/-! ### lists that fall -/
def insD (x : Int) : List Int → List Int
  | [] => [x]
  | y :: r => if y > x then y :: insD x r else x :: y :: r
def fall : List Int → List Int
  | [] => []
  | x :: r => insD x (fall r)
abbrev Falls (l : List Int) : Prop := l.Pairwise (· ≥ ·)
theorem insD_perm (x : Int) : ∀ l : List Int, (insD x l).Perm (x :: l)
  | [] => .refl _
  | y :: r => by
    unfold insD
    split
    · exact ((insD_perm x r).cons y).trans (.swap x y r)
    · exact .refl _
theorem insD_mem {x z : Int} {l : List Int} : z ∈ insD x l ↔ z = x ∨ z ∈ l := by
  rw [(insD_perm x l).mem_iff, List.mem_cons]
theorem insD_falls {x : Int} : ∀ {l : List Int}, Falls l → Falls (insD x l)
  | [], _ => List.pairwise_singleton _ _
  | y :: r, h => by
    obtain ⟨h1, h2⟩ := List.pairwise_cons.mp h
    unfold insD
    split
    · rename_i c
      refine List.pairwise_cons.mpr ⟨fun z hz => ?_, insD_falls h2⟩
      rcases insD_mem.mp hz with rfl | hz
      · exact Int.le_of_lt c
      · exact h1 z hz
    · rename_i c
      refine List.pairwise_cons.mpr ⟨fun z hz => ?_, h⟩
      rcases List.mem_cons.mp hz with rfl | hz
      · show z ≤ x
        omega
      · have := h1 z hz
        show z ≤ x
        omega
theorem fall_perm : ∀ l : List Int, (fall l).Perm l
  | [] => .refl _
  | x :: r => (insD_perm x _).trans ((fall_perm r).cons x)
theorem fall_falls : ∀ l : List Int, Falls (fall l)
  | [] => List.Pairwise.nil
  | _ :: r => insD_falls (fall_falls r)
theorem falls_unique : ∀ {l m : List Int}, l.Perm m → Falls l → Falls m → l = m
  | [], m, h, _, _ => (List.nil_perm.mp h).symm
  | x :: l, [], h, _, _ => absurd h.length_eq (by simp)
  | x :: l, y :: m, h, hl, hm => by
    obtain ⟨a1, a2⟩ := List.pairwise_cons.mp hl
    obtain ⟨b1, b2⟩ := List.pairwise_cons.mp hm
    have e : x = y := by
      have hx : x ∈ y :: m := h.mem_iff.mp (List.mem_cons_self ..)
      have hy : y ∈ x :: l := h.mem_iff.mpr (List.mem_cons_self ..)
      rcases List.mem_cons.mp hx with e | hx
      · exact e
      · rcases List.mem_cons.mp hy with e | hy
        · exact e.symm
        · have p := b1 x hx
          have q := a1 y hy
          omega
    subst e
    rw [falls_unique ((List.perm_cons x).mp h) a2 b2]
theorem fall_eq {l m : List Int} (h : m.Perm l) (hm : Falls m) : m = fall l := falls_unique (h.trans (fall_perm l).symm) hm (fall_falls l)
theorem fall_self {l : List Int} (h : Falls l) : fall l = l := (fall_eq (.refl _) h).symm
theorem fall_length (l : List Int) : (fall l).length = l.length := (fall_perm l).length_eq
theorem perm_sum : ∀ {l m : List Int}, l.Perm m → l.sum = m.sum := fun h => by
  induction h with
  | nil => rfl
  | cons x _ ih => rw [List.sum_cons, List.sum_cons, ih]
  | swap x y l => simp only [List.sum_cons]; omega
  | trans _ _ a b => exact a.trans b
theorem fall_sum (l : List Int) : (fall l).sum = l.sum := perm_sum (fall_perm l)
/-! ### settings -/
structure Good (ns : List Int) : Prop where
  pos : ∀ x ∈ ns, 1 ≤ x
  falls : Falls ns
  ne : ns ≠ []
theorem len_le_sum : ∀ {ns : List Int}, (∀ x ∈ ns, 1 ≤ x) → (ns.length : Int) ≤ ns.sum
  | [], _ => Int.le_refl 0
  | x :: r, h => by
    have h1 := h x (List.mem_cons_self ..)
    have ih := len_le_sum (ns := r) fun z hz => h z (List.mem_cons_of_mem _ hz)
    rw [List.sum_cons, List.length_cons]
    omega
theorem mem_le_sum : ∀ {ns : List Int}, (∀ x ∈ ns, 0 ≤ x) → ∀ x ∈ ns, x ≤ ns.sum
  | y :: r, h, x, hx => by
    have h1 := h y (List.mem_cons_self ..)
    have h2 : ∀ z ∈ r, 0 ≤ z := fun z hz => h z (List.mem_cons_of_mem _ hz)
    have h3 : 0 ≤ r.sum := by
      clear hx
      induction r with
      | nil => exact Int.le_refl 0
      | cons a t ih =>
        rw [List.sum_cons]
        have q1 := h2 a (List.mem_cons_self ..)
        have q2 := ih (fun z hz => h z (by rcases List.mem_cons.mp hz with e | e <;> simp [e])) fun z hz => h2 z (List.mem_cons_of_mem _ hz)
        omega
    rw [List.sum_cons]
    rcases List.mem_cons.mp hx with rfl | hx
    · omega
    · have q := mem_le_sum h2 x hx
      omega
/-- a setting of n coins -/
def IsSet (n : Int) (ns : List Int) : Prop := Good ns ∧ ns.sum = n
theorem IsSet.len {n : Int} {ns : List Int} (h : IsSet n ns) : (ns.length : Int) ≤ n := by
  have := len_le_sum h.1.pos
  rw [h.2] at this
  exact this
theorem IsSet.le {n : Int} {ns : List Int} (h : IsSet n ns) {x : Int} (hx : x ∈ ns) : x ≤ n := by
  have := mem_le_sum (fun z hz => by have := h.1.pos z hz; omega) x hx
  rw [h.2] at this
  exact this
theorem IsSet.ne {n : Int} {ns : List Int} (h : IsSet n ns) : 0 < ns.length := List.length_pos_iff.mpr h.1.ne
/-! ### a turn -/
def down1 (ns : List Int) : List Int := (ns.filter fun z => decide (z > 1)).map (· - 1)
def turn (ns : List Int) : List Int := insD ns.length (down1 ns)
theorem down1_cons (x : Int) (r : List Int) : down1 (x :: r) = if x > 1 then (x - 1) :: down1 r else down1 r := by
  unfold down1
  rw [List.filter_cons]
  by_cases c : x > 1
  · rw [if_pos c, if_pos (decide_eq_true c)] <;> rfl
  · rw [if_neg c, if_neg (by simp only [decide_eq_true_eq]; exact c)]
theorem mem_down1 {z : Int} {ns : List Int} : z ∈ down1 ns ↔ z + 1 ∈ ns ∧ 1 ≤ z := by
  unfold down1
  simp only [List.mem_map, List.mem_filter, decide_eq_true_eq]
  constructor
  · rintro ⟨y, ⟨h1, h2⟩, rfl⟩
    exact ⟨by rw [show y - 1 + 1 = y by omega]; exact h1, by omega⟩
  · rintro ⟨h1, h2⟩
    exact ⟨z + 1, ⟨h1, by omega⟩, by omega⟩
theorem down1_falls {ns : List Int} (h : Falls ns) : Falls (down1 ns) := by
  induction ns with
  | nil => exact List.Pairwise.nil
  | cons x r ih =>
    obtain ⟨h1, h2⟩ := List.pairwise_cons.mp h
    rw [down1_cons]
    split
    · refine List.pairwise_cons.mpr ⟨fun z hz => ?_, ih h2⟩
      have := h1 _ (mem_down1.mp hz).1
      show z ≤ x - 1
      omega
    · exact ih h2
theorem down1_sum {ns : List Int} (h : ∀ x ∈ ns, 1 ≤ x) : (down1 ns).sum + ns.length = ns.sum := by
  induction ns with
  | nil => rfl
  | cons x r ih =>
    have h1 := h x (List.mem_cons_self ..)
    have ih := ih fun z hz => h z (List.mem_cons_of_mem _ hz)
    rw [down1_cons]
    split
    · rw [List.sum_cons, List.sum_cons, List.length_cons]; omega
    · rw [List.sum_cons, List.length_cons]; omega
theorem down1_length (ns : List Int) : (down1 ns).length ≤ ns.length := by
  unfold down1
  rw [List.length_map]
  exact List.length_filter_le _ _
theorem turn_perm (ns : List Int) : (turn ns).Perm (down1 ns ++ [(ns.length : Int)]) := (insD_perm _ _).trans (List.perm_append_comm (l₁ := [(ns.length : Int)]) (l₂ := down1 ns))
theorem turn_eq {ns : List Int} (h : Falls ns) : turn ns = fall (down1 ns ++ [(ns.length : Int)]) := fall_eq (turn_perm ns) (insD_falls (down1_falls h))
theorem turn_set {n : Int} {ns : List Int} (h : IsSet n ns) : IsSet n (turn ns) := by
  refine ⟨⟨fun x hx => ?_, insD_falls (down1_falls h.1.falls), fun e => ?_⟩, ?_⟩
  · rcases insD_mem.mp hx with rfl | hx
    · have := h.ne
      omega
    · exact (mem_down1.mp hx).2
  · have : (turn ns).length = (down1 ns).length + 1 := (insD_perm _ _).length_eq
    rw [e] at this
    simp at this
  · rw [show (turn ns).sum = _ from perm_sum (insD_perm _ _), List.sum_cons]
    have := down1_sum h.1.pos
    rw [h.2] at this
    omega
theorem turn_length (ns : List Int) : (turn ns).length ≤ ns.length + 1 := by
  have : (turn ns).length = (down1 ns).length + 1 := (insD_perm _ _).length_eq
  have := down1_length ns
  omega

/-! ### the stair -/
def stairUp : Nat → Nat → Nat → Nat
  | 0, s, _ => s
  | f + 1, s, n => if s * (s + 1) < 2 * n then stairUp f (s + 1) n else s
def stair (n : Nat) : Nat := stairUp n 1 n
theorem sq_mono {a b : Nat} (h : a ≤ b) : a * (a + 1) ≤ b * (b + 1) := Nat.mul_le_mul h (Nat.succ_le_succ h)
theorem le_sq (a : Nat) : a ≤ a * (a + 1) := Nat.le_mul_of_pos_right a (Nat.succ_pos a)
theorem stairUp_spec : ∀ (f s n : Nat), n ≤ f + s → 1 ≤ s → (s - 1) * s < 2 * n → 1 ≤ stairUp f s n ∧ (stairUp f s n - 1) * stairUp f s n < 2 * n ∧ 2 * n ≤ stairUp f s n * (stairUp f s n + 1)
  | 0, s, n, h, h1, h2 => by
    refine ⟨h1, h2, ?_⟩
    show 2 * n ≤ s * (s + 1)
    have : s * 2 ≤ s * (s + 1) := Nat.mul_le_mul_left s (by omega)
    omega
  | f + 1, s, n, h, h1, h2 => by
    unfold stairUp
    split
    · rename_i c
      exact stairUp_spec f (s + 1) n (by omega) (by omega) (by rw [Nat.add_sub_cancel]; exact c)
    · rename_i c
      exact ⟨h1, h2, by omega⟩
theorem stair_spec {n : Nat} (h : 1 ≤ n) : 1 ≤ stair n ∧ (stair n - 1) * stair n < 2 * n ∧ 2 * n ≤ stair n * (stair n + 1) := stairUp_spec n 1 n (by omega) (Nat.le_refl _) (by omega)
theorem stair_uniq {n s : Nat} (h : 1 ≤ n) (h1 : 1 ≤ s) (h2 : (s - 1) * s < 2 * n) (h3 : 2 * n ≤ s * (s + 1)) : s = stair n := by
  obtain ⟨a, b, c⟩ := stair_spec h
  generalize stair n = t at *
  rcases Nat.lt_trichotomy s t with l | e | l
  · have := sq_mono (show s ≤ t - 1 by omega)
    rw [show t - 1 + 1 = t by omega] at this
    omega
  · exact e
  · have := sq_mono (show t ≤ s - 1 by omega)
    rw [show s - 1 + 1 = s by omega] at this
    omega
theorem stair_le {n : Nat} (h : 1 ≤ n) {b : Nat} (hb : 2 * n ≤ b * (b + 1)) (h1 : 1 ≤ b) : stair n ≤ b := by
  obtain ⟨_, b1, _⟩ := stair_spec h
  rcases Nat.lt_or_ge b (stair n) with l | l
  · have := sq_mono (show b ≤ stair n - 1 by omega)
    rw [show stair n - 1 + 1 = stair n by omega] at this
    omega
  · exact l
/-- the ones of n coins' marks -/
def restOf (n : Nat) : Nat := n - stair n * (stair n - 1) / 2
theorem half_sq (s : Nat) : 2 * (s * (s + 1) / 2) = s * (s + 1) := by
  have h : s * (s + 1) % 2 = 0 := by
    rcases Nat.mod_two_eq_zero_or_one s with e | e
    · rw [Nat.mul_mod, e, Nat.zero_mul]
    · rw [Nat.mul_mod, Nat.add_mod, e]
  omega
theorem half_sq' {s : Nat} (h : 1 ≤ s) : 2 * (s * (s - 1) / 2) = s * (s - 1) := by
  have := half_sq (s - 1)
  rw [show s - 1 + 1 = s by omega, Nat.mul_comm (s - 1) s] at this
  exact this
theorem rest_spec {n : Nat} (h : 1 ≤ n) : 1 ≤ restOf n ∧ restOf n ≤ stair n ∧ n = stair n * (stair n - 1) / 2 + restOf n := by
  obtain ⟨a, b, c⟩ := stair_spec h
  have e := half_sq' a
  unfold restOf
  have d : stair n * (stair n + 1) = stair n * (stair n - 1) + 2 * stair n := by
    rw [← Nat.mul_comm (stair n) 2, ← Nat.mul_add]
    congr 1
    omega
  rw [Nat.mul_comm] at b
  omega
/-! ### marks -/
def mk : List Int → List Int
  | [] => []
  | m :: r => ((r.length : Int) + m) :: mk r
def ofMarks (ms : List Int) : List Int := (mk ms).filter fun z => decide (z > 0)
theorem mk_length : ∀ ms : List Int, (mk ms).length = ms.length
  | [] => rfl
  | _ :: r => congrArg (· + 1) (mk_length r)
theorem mk_get : ∀ {ms : List Int} {i : Nat} {m : Int}, ms[i]? = some m → (mk ms)[i]? = some ((ms.length : Int) - 1 - i + m)
  | [], _, _, h => by simp at h
  | a :: r, 0, m, h => by
    have e : a = m := Option.some.inj h
    subst e
    show some ((r.length : Int) + a) = some (((r.length + 1 : Nat) : Int) - 1 - ((0 : Nat) : Int) + a)
    congr 1
    omega
  | a :: r, i + 1, m, h => by
    have ih := mk_get (ms := r) (i := i) (m := m) h
    show (mk r)[i]? = some (((r.length + 1 : Nat) : Int) - 1 - ((i + 1 : Nat) : Int) + m)
    rw [ih]
    congr 1
    omega
/-- noughts and ones -/
def Bits (ms : List Int) : Prop := ∀ m ∈ ms, m = 0 ∨ m = 1
theorem mk_bits : ∀ {ms : List Int}, Bits ms → (∀ z ∈ mk ms, 0 ≤ z ∧ z ≤ ms.length) ∧ Falls (mk ms)
  | [], _ => ⟨fun _ h => (by cases h), List.Pairwise.nil⟩
  | m :: r, h => by
    have hm := h m (List.mem_cons_self ..)
    obtain ⟨h1, h2⟩ := mk_bits (ms := r) fun z hz => h z (List.mem_cons_of_mem _ hz)
    refine ⟨fun z hz => ?_, List.pairwise_cons.mpr ⟨fun z hz => ?_, h2⟩⟩
    · rw [List.length_cons]
      rcases List.mem_cons.mp hz with rfl | hz
      · omega
      · have := h1 z hz
        omega
    · have := h1 z hz
      show z ≤ (r.length : Int) + m
      omega
theorem mk_sum : ∀ ms : List Int, (mk ms).sum = ((ms.length * (ms.length - 1) / 2 : Nat) : Int) + ms.sum
  | [] => rfl
  | m :: r => by
    have ih := mk_sum r
    show ((r.length : Int) + m) + (mk r).sum = _
    rw [ih, List.sum_cons, List.length_cons]
    have e1 := half_sq r.length
    have e2 : 2 * (r.length * (r.length - 1) / 2) = r.length * (r.length - 1) := by
      rcases Nat.eq_zero_or_pos r.length with e | e
      · rw [e]
      · exact half_sq' e
    rw [Nat.add_sub_cancel, Nat.mul_comm (r.length + 1) r.length]
    have e3 : r.length * (r.length + 1) = r.length * (r.length - 1) + 2 * r.length := by
      rcases Nat.eq_zero_or_pos r.length with e | e
      · rw [e]
      · rw [← Nat.mul_comm r.length 2, ← Nat.mul_add]
        congr 1
        omega
    omega
theorem filter_pos_sum : ∀ {l : List Int}, (∀ z ∈ l, 0 ≤ z) → (l.filter fun z => decide (z > 0)).sum = l.sum
  | [], _ => rfl
  | x :: r, h => by
    have h1 := h x (List.mem_cons_self ..)
    have ih := filter_pos_sum (l := r) fun z hz => h z (List.mem_cons_of_mem _ hz)
    rw [List.filter_cons]
    by_cases c : x > 0
    · rw [if_pos (decide_eq_true c), List.sum_cons, List.sum_cons, ih]
    · rw [if_neg (by simp only [decide_eq_true_eq]; exact c), List.sum_cons, ih]
      omega
theorem ofMarks_set {n : Nat} (hn : 1 ≤ n) {ms : List Int} (hb : Bits ms) (hl : ms.length = stair n) (hs : ms.sum = (restOf n : Int)) : IsSet n (ofMarks ms) := by
  obtain ⟨h1, h2⟩ := mk_bits hb
  have hsum : (ofMarks ms).sum = (n : Int) := by
    unfold ofMarks
    rw [filter_pos_sum fun z hz => (h1 z hz).1, mk_sum, hs, hl]
    have := (rest_spec hn).2.2
    omega
  refine ⟨⟨fun x hx => ?_, ?_, fun e => ?_⟩, hsum⟩
  · have := of_decide_eq_true (List.mem_filter.mp hx).2
    omega
  · exact List.Pairwise.filter _ h2
  · rw [e] at hsum
    have : (0 : Int) = n := hsum
    omega
/-! ### elders: what the pile at a place was not yet -/
def elderAt (ns : List Int) (j : Nat) (p : Int) : List Int := ((ns.take j ++ ns.drop (j + 1)).map (· + 1)) ++ List.replicate (p - ((ns.length : Int) - 1)).toNat 1
theorem sum_replicate (n : Nat) : (List.replicate n (1 : Int)).sum = n := by
  induction n with
  | zero => rfl
  | succ n ih => rw [List.replicate_succ, List.sum_cons, ih]; omega
theorem sum_map_add1 : ∀ l : List Int, (l.map (· + 1)).sum = l.sum + l.length
  | [] => rfl
  | x :: r => by
    have ih := sum_map_add1 r
    rw [List.map_cons, List.sum_cons, List.sum_cons, ih, List.length_cons]
    omega
theorem take_drop_sum : ∀ {ns : List Int} {j : Nat} {p : Int}, ns[j]? = some p → (ns.take j ++ ns.drop (j + 1)).sum + p = ns.sum ∧ (ns.take j ++ ns.drop (j + 1)).length + 1 = ns.length
  | [], _, _, h => by simp at h
  | a :: r, 0, p, h => by
    have e : a = p := Option.some.inj h
    subst e
    refine ⟨?_, rfl⟩
    show r.sum + a = (a :: r).sum
    rw [List.sum_cons]
    omega
  | a :: r, j + 1, p, h => by
    obtain ⟨h1, h2⟩ := take_drop_sum (ns := r) (j := j) (p := p) h
    refine ⟨?_, ?_⟩
    · show (a :: (r.take j ++ r.drop (j + 1))).sum + p = (a :: r).sum
      rw [List.sum_cons, List.sum_cons]
      omega
    · show (r.take j ++ r.drop (j + 1)).length + 1 + 1 = r.length + 1
      omega
theorem take_drop_sub (ns : List Int) (j : Nat) : (ns.take j ++ ns.drop (j + 1)).Sublist ns := by
  have h := (List.Sublist.refl (ns.take j)).append (List.drop_sublist 1 (ns.drop j))
  rw [List.take_append_drop, List.drop_drop] at h
  exact h
theorem elder_set {n : Int} {ns : List Int} (h : IsSet n ns) {j : Nat} {p : Int} (hp : ns[j]? = some p) (hb : p ≥ (ns.length : Int) - 1) : IsSet n (elderAt ns j p) := by
  obtain ⟨s1, s2⟩ := take_drop_sum hp
  have sub := take_drop_sub ns j
  have h1 := h.1.pos p (List.mem_of_getElem? hp)
  refine ⟨⟨fun x hx => ?_, ?_, fun e => ?_⟩, ?_⟩
  · rcases List.mem_append.mp hx with hx | hx
    · obtain ⟨y, hy, rfl⟩ := List.mem_map.mp hx
      have := h.1.pos y (sub.subset hy)
      omega
    · rw [List.eq_of_mem_replicate hx]
      exact Int.le_refl 1
  · refine List.pairwise_append.mpr ⟨?_, ?_, fun a ha b hb => ?_⟩
    · rw [List.pairwise_map]
      exact (h.1.falls.sublist sub).imp fun h => by omega
    · exact List.pairwise_replicate.mpr (.inr (Int.le_refl 1))
    · obtain ⟨y, hy, rfl⟩ := List.mem_map.mp ha
      have := h.1.pos y (sub.subset hy)
      rw [List.eq_of_mem_replicate hb]
      omega
  · have := congrArg List.length e
    unfold elderAt at this
    rw [List.length_append, List.length_map, List.length_replicate, List.length_nil] at this
    omega
  · unfold elderAt
    rw [List.sum_append, sum_map_add1, sum_replicate]
    have := h.2
    omega

/-! ### elders -/
def elderOk (ns : List Int) (j : Nat) : Bool := decide (ns.getD j 0 ≥ (ns.length : Int) - 1) && (j == 0 || ns.getD (j - 1) 0 != ns.getD j 0)
def eldersTo (ns : List Int) : Nat → List (List Int)
  | 0 => []
  | i + 1 => if elderOk ns i = true then eldersTo ns i ++ [elderAt ns i (ns.getD i 0)] else eldersTo ns i
def eldersU (ns : List Int) : List (List Int) := eldersTo ns ns.length
theorem getD_of {ns : List Int} {j : Nat} {p : Int} (h : ns[j]? = some p) : ns.getD j 0 = p := by
  rw [List.getD_eq_getElem?_getD, h] <;> rfl
theorem eldersTo_len (ns : List Int) : ∀ i, (eldersTo ns i).length ≤ i
  | 0 => Nat.le_refl _
  | i + 1 => by
    have := eldersTo_len ns i
    unfold eldersTo
    split
    · rw [List.length_append, List.length_singleton]
      omega
    · omega
theorem elders_set {n : Int} {ns : List Int} (h : IsSet n ns) : ∀ i, i ≤ ns.length → ∀ m ∈ eldersTo ns i, IsSet n m
  | 0, _, m, hm => by cases hm
  | i + 1, hi, m, hm => by
    have ih := elders_set h i (by omega)
    unfold eldersTo at hm
    split at hm
    · rename_i c
      rcases List.mem_append.mp hm with hm | hm
      · exact ih m hm
      · rw [List.mem_singleton.mp hm]
        have gi : ns[i]? = some ns[i] := List.getElem?_eq_getElem hi
        have c1 := of_decide_eq_true (Bool.and_eq_true_iff.mp c).1
        rw [getD_of gi] at c1 ⊢
        exact elder_set h gi c1
    · exact ih m hm
/-! ### all settings, the small piles first -/
def groupsA (g : Nat → List (List Int)) : Nat → List (List Int)
  | 0 => []
  | i + 1 => groupsA g i ++ (g (i + 1)).map (((i + 1 : Nat) : Int) :: ·)
def partsA : Nat → Nat → Nat → List (List Int)
  | 0, c, _ => if c = 0 then [[]] else []
  | f + 1, c, m => if c = 0 then [[]] else groupsA (fun p => partsA f (c - p) p) (min c m)
theorem groupsA_len {g : Nat → List (List Int)} {M c : Nat} (hM : M ≤ c) (hg : ∀ p, 1 ≤ p → p ≤ M → (g p).length ≤ 2 ^ (c - p)) : ∀ i, i ≤ M → (groupsA g i).length + 2 ^ (c - i) ≤ 2 ^ c
  | 0, _ => by
    show 0 + 2 ^ (c - 0) ≤ 2 ^ c
    rw [Nat.zero_add, Nat.sub_zero]
    exact Nat.le_refl _
  | i + 1, h => by
    have ih := groupsA_len hM hg i (by omega)
    have h1 := hg (i + 1) (by omega) (by omega)
    unfold groupsA
    rw [List.length_append, List.length_map]
    have e : 2 ^ (c - i) = 2 * 2 ^ (c - (i + 1)) := by
      rw [show c - i = (c - (i + 1)) + 1 by omega, Nat.pow_succ, Nat.mul_comm]
    omega
theorem partsA_len : ∀ (f c m : Nat), (partsA f c m).length ≤ 2 ^ c
  | 0, c, m => by
    unfold partsA
    split
    · exact Nat.one_le_two_pow
    · exact Nat.zero_le _
  | f + 1, c, m => by
    unfold partsA
    split
    · exact Nat.one_le_two_pow
    · have := groupsA_len (g := fun p => partsA f (c - p) p) (M := min c m) (c := c) (by omega) (fun p _ _ => partsA_len f (c - p) p) (min c m) (Nat.le_refl _)
      exact Nat.le_trans (Nat.le_add_right _ _) this
theorem groupsA_mono {g : Nat → List (List Int)} : ∀ {i j : Nat}, i ≤ j → (groupsA g i).length ≤ (groupsA g j).length
  | i, 0, h => by
    obtain rfl : i = 0 := by omega
    exact Nat.le_refl _
  | i, j + 1, h => by
    rcases Nat.lt_or_ge i (j + 1) with l | l
    · have := groupsA_mono (g := g) (i := i) (j := j) (by omega)
      show _ ≤ (groupsA g j ++ (g (j + 1)).map (((j + 1 : Nat) : Int) :: ·)).length
      rw [List.length_append]
      omega
    · obtain rfl : i = j + 1 := by omega
      exact Nat.le_refl _
theorem mem_groupsA {g : Nat → List (List Int)} {x : List Int} : ∀ {i : Nat}, x ∈ groupsA g i ↔ ∃ p r, 1 ≤ p ∧ p ≤ i ∧ r ∈ g p ∧ x = (p : Int) :: r
  | 0 => ⟨fun h => (by cases h), fun ⟨p, r, h1, h2, _⟩ => by omega⟩
  | i + 1 => by
    unfold groupsA
    rw [List.mem_append, mem_groupsA (i := i), List.mem_map]
    constructor
    · rintro (⟨p, r, h1, h2, h3, h4⟩ | ⟨r, h3, h4⟩)
      · exact ⟨p, r, h1, by omega, h3, h4⟩
      · exact ⟨i + 1, r, by omega, Nat.le_refl _, h3, h4.symm⟩
    · rintro ⟨p, r, h1, h2, h3, h4⟩
      rcases Nat.lt_or_ge p (i + 1) with l | l
      · exact .inl ⟨p, r, h1, by omega, h3, h4⟩
      · obtain rfl : p = i + 1 := by omega
        exact .inr ⟨r, h3, h4.symm⟩
theorem mem_partsA : ∀ (f c m : Nat) {ns : List Int}, c ≤ f → Falls ns → (∀ x ∈ ns, 1 ≤ x ∧ x ≤ (m : Int)) → ns.sum = (c : Int) → ns ∈ partsA f c m
  | f, c, m, [], hc, _, _, hs => by
    have : (0 : Int) = c := hs
    obtain rfl : c = 0 := by omega
    cases f with
    | zero =>
      unfold partsA
      rw [if_pos rfl]
      exact List.mem_singleton.mpr rfl
    | succ f =>
      unfold partsA
      rw [if_pos rfl]
      exact List.mem_singleton.mpr rfl
  | f, c, m, x :: r, hc, hf, hx, hs => by
    obtain ⟨f1, f2⟩ := List.pairwise_cons.mp hf
    have h1 := hx x (List.mem_cons_self ..)
    have hr : ∀ y ∈ r, 1 ≤ y := fun y hy => (hx y (List.mem_cons_of_mem _ hy)).1
    have hl := len_le_sum hr
    rw [List.sum_cons] at hs
    obtain ⟨p, rfl⟩ : ∃ p : Nat, x = p := ⟨x.toNat, by omega⟩
    cases f with
    | zero => omega
    | succ f =>
      unfold partsA
      rw [if_neg (by omega), mem_groupsA]
      refine ⟨p, r, by omega, by omega, mem_partsA f (c - p) p (by omega) f2 (fun y hy => ⟨hr y hy, f1 y hy⟩) (by omega), rfl⟩
theorem partsA_elt : ∀ (f c m : Nat), ∀ ns ∈ partsA f c m, ns.length ≤ c
  | 0, c, m, ns, h => by
    unfold partsA at h
    split at h
    · rw [List.mem_singleton.mp h]
      exact Nat.zero_le _
    · cases h
  | f + 1, c, m, ns, h => by
    unfold partsA at h
    split at h
    · rw [List.mem_singleton.mp h]
      exact Nat.zero_le _
    · obtain ⟨p, r, h1, h2, h3, rfl⟩ := mem_groupsA.mp h
      have := partsA_elt f (c - p) p r h3
      rw [List.length_cons]
      omega

/-! ### lists of ints compared -/
theorem dpAll_ints {K : PySem.W.Frag} {H : Hp} : ∀ ns : List Int, DpAll K H (ns.map V.int) (ns.map PyData.int)
  | [] => .nil
  | n :: r => .cons (.int n) (dpAll_ints r)
theorem dp_ints {K : PySem.W.Frag} {H : Hp} {a : Addr} {ns : List Int} (h : SqL K H a (ns.map V.int)) : Dp K H (.ref a) (.list (ns.map PyData.int)) := .lst h (dpAll_ints ns)
theorem sh_all_ints : ∀ ns : List Int, PyData.canLayAll0 (ns.map PyData.int) = true ∧ PyData.depthAll (ns.map PyData.int) = 0
  | [] => ⟨rfl, rfl⟩
  | n :: r => by
    obtain ⟨h1, h2⟩ := sh_all_ints r
    refine ⟨?_, ?_⟩
    · rw [List.map_cons, PyData.canLayAll0, h1] <;> rfl
    · rw [List.map_cons, PyData.depthAll, h2] <;> rfl
theorem sh_ints (ns : List Int) : SeqAt.shaped (.list (ns.map PyData.int)) = true := by
  obtain ⟨h1, h2⟩ := sh_all_ints ns
  unfold SeqAt.shaped
  rw [PyData.canLay0, PyData.depth, h1, h2] <;> rfl
theorem eqv_all_ints : ∀ ns ms : List Int, PyData.eqvAll (ns.map PyData.int) (ms.map PyData.int) = decide (ns = ms)
  | [], [] => by rw [List.map_nil, PyData.eqvAll] <;> rfl
  | [], m :: ms => by rw [List.map_nil, List.map_cons, PyData.eqvAll] <;> simp
  | n :: ns, [] => by rw [List.map_nil, List.map_cons, PyData.eqvAll] <;> simp
  | n :: ns, m :: ms => by
    rw [List.map_cons, List.map_cons, PyData.eqvAll, eqv_all_ints ns ms, PyData.eqv]
    by_cases e : n = m
    · subst e
      simp
    · simp [e]
theorem eqv_ints (ns ms : List Int) : PyData.eqv (.list (ns.map PyData.int)) (.list (ms.map PyData.int)) = decide (ns = ms) := by
  rw [PyData.eqv]
  exact eqv_all_ints ns ms
/-! ### a list that is looked at place by place -/
def Adj (ns : List Int) (i : Nat) : Prop := ∀ j, j < i → ∀ x, ns[j]? = some x → 1 ≤ x ∧ ∀ y, 0 < j → ns[j - 1]? = some y → x ≤ y
theorem falls_of_adj : ∀ {ns : List Int}, (∀ j x y, ns[j + 1]? = some x → ns[j]? = some y → x ≤ y) → Falls ns
  | [], _ => List.Pairwise.nil
  | [_], _ => List.pairwise_singleton _ _
  | a :: b :: r, h => by
    have ih : Falls (b :: r) := falls_of_adj fun j x y hx hy => h (j + 1) x y hx hy
    have hab : b ≤ a := h 0 b a rfl rfl
    refine List.pairwise_cons.mpr ⟨fun z hz => ?_, ih⟩
    rcases List.mem_cons.mp hz with rfl | hz
    · exact hab
    · have := (List.pairwise_cons.mp ih).1 z hz
      show z ≤ a
      omega
theorem good_adj {ns : List Int} : Good ns ↔ ns ≠ [] ∧ Adj ns ns.length := by
  constructor
  · intro h
    refine ⟨h.ne, fun j hj x hx => ⟨h.pos x (List.mem_of_getElem? hx), fun y h0 hy => ?_⟩⟩
    obtain ⟨i, rfl⟩ : ∃ i, j = i + 1 := ⟨j - 1, by omega⟩
    obtain ⟨a1, a2⟩ := List.getElem?_eq_some_iff.mp hx
    obtain ⟨b1, b2⟩ := List.getElem?_eq_some_iff.mp hy
    have := List.pairwise_iff_getElem.mp h.falls i (i + 1) (by omega) a1 (by omega)
    rw [← a2, ← b2]
    exact this
  · rintro ⟨h0, h⟩
    refine ⟨fun x hx => ?_, falls_of_adj fun j x y hx hy => ?_, h0⟩
    · obtain ⟨j, hj⟩ := List.getElem?_of_mem hx
      exact (h j (List.getElem?_eq_some_iff.mp hj).1 x hj).1
    · exact (h (j + 1) (List.getElem?_eq_some_iff.mp hx).1 x hx).2 y (by omega) hy
theorem insD_at {x : Int} : ∀ {l : List Int} {j : Nat}, j ≤ l.length → (∀ i y, i < j → l[i]? = some y → y > x) → (∀ y, l[j]? = some y → ¬ y > x) → insD x l = l.take j ++ [x] ++ l.drop j
  | [], 0, _, _, _ => rfl
  | [], j + 1, h, _, _ => by simp at h
  | a :: r, 0, _, _, h => by
    unfold insD
    rw [if_neg (h a rfl)] <;> rfl
  | a :: r, j + 1, hj, h1, h2 => by
    unfold insD
    rw [if_pos (h1 0 a (by omega) rfl), insD_at (l := r) (j := j) (by simpa using hj) (fun i y hi hy => h1 (i + 1) y (by omega) hy) h2] <;> rfl
theorem op_eqDK {X : Cx} (K : PySem.W.Frag) (hu : X.A.units + 64 < cLine) (h : X.K = K := by rfl) : OpR X (compareOp .Eq) (rEqD K) := by
  subst h
  exact op_eqD hu

/-! ### lists of lists -/
def LLs (H : Hp) : List Addr → List (List Int) → Prop
  | [], [] => True
  | a :: as, n :: ns => IL H a n ∧ LLs H as ns
  | _, _ => False
theorem LLs.same {H H' : Hp} (e : Same H H') : ∀ {as : List Addr} {ns : List (List Int)}, LLs H as ns → LLs H' as ns
  | [], [], _ => trivial
  | _ :: _, _ :: _, h => ⟨e _ _ h.1, h.2.same e⟩
  | [], _ :: _, h => h.elim
  | _ :: _, [], h => h.elim
theorem LLs.upd {H : Hp} {p : Addr} {o : HO} : ∀ {as : List Addr} {ns : List (List Int)}, (∀ a ∈ as, a ≠ p) → LLs H as ns → LLs (upd H p o) as ns
  | [], [], _, _ => trivial
  | a :: _, _ :: _, hn, h => ⟨by show L2.upd _ _ _ _ = _; rw [upd_ne (hn a (List.mem_cons_self ..))]; exact h.1, h.2.upd fun b hb => hn b (List.mem_cons_of_mem _ hb)⟩
  | [], _ :: _, _, h => h.elim
  | _ :: _, [], _, h => h.elim
theorem LLs.len {H : Hp} : ∀ {as : List Addr} {ns : List (List Int)}, LLs H as ns → as.length = ns.length
  | [], [], _ => rfl
  | _ :: _, _ :: _, h => congrArg (· + 1) h.2.len
  | [], _ :: _, h => h.elim
  | _ :: _, [], h => h.elim
theorem LLs.get {H : Hp} : ∀ {as : List Addr} {ns : List (List Int)} {i : Nat} {a : Addr}, LLs H as ns → as[i]? = some a → ∃ n, ns[i]? = some n ∧ IL H a n
  | [], [], _, _, _, h => by simp at h
  | b :: _, m :: _, 0, a, h, e => by
    have : b = a := Option.some.inj e
    subst this
    exact ⟨m, rfl, h.1⟩
  | _ :: _, _ :: _, i + 1, a, h, e => LLs.get (i := i) h.2 e
  | [], _ :: _, _, _, h, _ => h.elim
  | _ :: _, [], _, _, h, _ => h.elim
theorem LLs.app {H : Hp} : ∀ {as bs : List Addr} {ns ms : List (List Int)}, LLs H as ns → LLs H bs ms → LLs H (as ++ bs) (ns ++ ms)
  | [], _, [], _, _, g => g
  | _ :: _, _, _ :: _, _, h, g => ⟨h.1, h.2.app g⟩
  | [], _, _ :: _, _, h, _ => h.elim
  | _ :: _, _, [], _, h, _ => h.elim
theorem LLs.in_ {H : Hp} : ∀ {as : List Addr} {ns : List (List Int)} {a : Addr}, LLs H as ns → a ∈ as → ∃ n, n ∈ ns ∧ IL H a n := fun h ha => by
  obtain ⟨i, hi⟩ := List.getElem?_of_mem ha
  obtain ⟨n, e, q⟩ := h.get hi
  exact ⟨n, List.mem_of_getElem? e, q⟩
/-- a list of lists -/
def LL (H : Hp) (a : Addr) (as : List Addr) (ns : List (List Int)) : Prop := H a = some (.lst (as.map V.ref)) ∧ LLs H as ns
/-- a new list of new lists -/
abbrev NLL (Q : VK) (H : Hp) (ns : List (List Int)) : Prop := ∀ (H' : Hp) (p : Addr) (as : List Addr), Same H H' → H p = none → (∀ a ∈ as, H a = none) → LL H' p as ns → Q (.ref p) H'
theorem get_ref {as : List Addr} {i : Nat} {x : V} (h : (as.map V.ref)[i]? = some x) : ∃ z, as[i]? = some z ∧ x = .ref z := by
  rw [List.getElem?_map] at h
  cases e : as[i]? with
  | none => rw [e] at h; cases h
  | some z => rw [e] at h; exact ⟨z, rfl, (Option.some.inj h).symm⟩
theorem ref_get {as : List Addr} {i : Nat} {z : Addr} (h : as[i]? = some z) : (as.map V.ref)[i]? = some (.ref z) := by
  rw [List.getElem?_map, h] <;> rfl
theorem rlen {as : List Addr} : (as.map V.ref).length = as.length := List.length_map _
theorem two_pow_small {c : Nat} (h : c ≤ 20) : 2 ^ c ≤ 1048576 := Nat.pow_le_pow_right (by decide) h
theorem smallM {n : Nat} (h : n ≤ 1048576) : n < sizeLine := Nat.lt_of_le_of_lt h (by decide)

/-! ### lists of lists compared -/
def toD (n : List Int) : PyData := .list (n.map PyData.int)
theorem dpAll_lls {K : PySem.W.Frag} {H : Hp} : ∀ {as : List Addr} {nss : List (List Int)}, LLs H as nss → DpAll K H (as.map V.ref) (nss.map toD)
  | [], [], _ => .nil
  | _ :: _, _ :: _, h => .cons (dp_ints (sq h.1)) (dpAll_lls h.2)
  | [], _ :: _, h => h.elim
  | _ :: _, [], h => h.elim
theorem dp_ll {K : PySem.W.Frag} {H : Hp} {a : Addr} {as : List Addr} {nss : List (List Int)} (h : LL H a as nss) : Dp K H (.ref a) (.list (nss.map toD)) := .lst (sq h.1) (dpAll_lls h.2)
theorem sh_all_lls : ∀ nss : List (List Int), PyData.canLayAll0 (nss.map toD) = true ∧ PyData.depthAll (nss.map toD) ≤ 1
  | [] => ⟨rfl, Nat.zero_le _⟩
  | n :: r => by
    obtain ⟨h1, h2⟩ := sh_all_lls r
    obtain ⟨g1, g2⟩ := sh_all_ints n
    refine ⟨?_, ?_⟩
    · rw [List.map_cons, PyData.canLayAll0, h1]
      unfold toD
      rw [PyData.canLay0, g1] <;> rfl
    · rw [List.map_cons, PyData.depthAll]
      have : PyData.depth (toD n) = 1 := by
        unfold toD
        rw [PyData.depth, g2]
      omega
theorem sh_lls (nss : List (List Int)) : SeqAt.shaped (.list (nss.map toD)) = true := by
  obtain ⟨h1, h2⟩ := sh_all_lls nss
  unfold SeqAt.shaped
  rw [PyData.canLay0, PyData.depth, h1]
  exact decide_eq_true (by omega)
theorem any_lls (n : List Int) : ∀ nss : List (List Int), ((nss.map toD).any fun z => PyData.eqv z (toD n)) = decide (n ∈ nss)
  | [] => rfl
  | m :: r => by
    rw [List.map_cons, List.any_cons, any_lls n r]
    unfold toD
    rw [eqv_ints]
    by_cases e : m = n
    · subst e
      simp
    · by_cases e2 : n ∈ r
      · simp [e, e2]
      · have e3 : ¬ n = m := fun h => e h.symm
        simp [e, e2, e3]
theorem eqv_all_lls : ∀ ns ms : List (List Int), PyData.eqvAll (ns.map toD) (ms.map toD) = decide (ns = ms)
  | [], [] => by rw [List.map_nil, PyData.eqvAll] <;> rfl
  | [], m :: ms => by rw [List.map_nil, List.map_cons, PyData.eqvAll] <;> simp
  | n :: ns, [] => by rw [List.map_nil, List.map_cons, PyData.eqvAll] <;> simp
  | n :: ns, m :: ms => by
    rw [List.map_cons, List.map_cons, PyData.eqvAll, eqv_all_lls ns ms]
    unfold toD
    rw [eqv_ints]
    by_cases e : n = m
    · subst e
      simp
    · simp [e]
theorem eqv_lls (ns ms : List (List Int)) : PyData.eqv (.list (ns.map toD)) (.list (ms.map toD)) = decide (ns = ms) := by
  rw [PyData.eqv]
  exact eqv_all_lls ns ms
theorem LLs.ne {H : Hp} {p : Addr} (h : H p = none) {as : List Addr} {nss : List (List Int)} (q : LLs H as nss) : ∀ a ∈ as, a ≠ p := fun a ha => by
  obtain ⟨m, _, em⟩ := q.in_ ha
  exact ne_of_none em h
/-- a list of refs that is not empty is no list of ints -/
theorem ref_ne_int {H : Hp} {f a : Addr} {fs : List Addr} {x : List Int} (hf : H f = some (.lst (fs.map V.ref))) (ha : H a = some (.lst (x.map V.int))) (h : 0 < fs.length) : f ≠ a := fun e => by
  rw [e, ha] at hf
  have h2 := Option.some.inj hf
  have h3 : x.map V.int = fs.map V.ref := by
    injection h2
  have g0 : fs[0]? = some (fs[0]'h) := List.getElem?_eq_getElem h
  have h4 := congrArg (fun l => l[0]?) h3
  simp only [List.getElem?_map, g0, Option.map_some] at h4
  cases hx0 : x[0]? with
  | none =>
    rw [hx0] at h4
    cases h4
  | some z =>
    rw [hx0] at h4
    cases h4
theorem cut_butlast (xs : List V) : cutV xs none (some (-1)) = xs.dropLast := by
  unfold cutV
  rw [HT.sIx_none, show HT.sIx xs.length xs.length (some (-1)) = xs.length - 1 by
    show (if (-1 : Int) < 0 then ((-1 : Int) + (xs.length : Int)).toNat else min (-1 : Int).toNat xs.length) = xs.length - 1
    rw [if_pos (by decide)]
    omega, Nat.sub_zero, List.drop_zero, List.dropLast_eq_take]
/-- the script and a new object -/
theorem SL.apart {K : PySem.W.Frag} {H : Hp} {a D : Addr} {ns : List Int} (h : SL K H a ns) (n : H D = none) : a ≠ D ∨ ∀ H, SL K H a ns := by
  rcases h with (e | ⟨o, e⟩) | e
  · exact .inl (ne_of_none e n)
  · exact .inl (ne_of_none e n)
  · exact .inr fun _ => .inr e
theorem SL.upd {K : PySem.W.Frag} {H : Hp} {a D : Addr} {ns : List Int} {o : HO} (h : SL K H a ns) (d : a ≠ D ∨ ∀ H, SL K H a ns) : SL K (upd H D o) a ns := by
  rcases d with d | d
  · rcases h with (e | ⟨o', e⟩) | e
    · exact .inl (.inl (by rw [upd_ne d]; exact e))
    · exact .inl (.inr ⟨o', by rw [upd_ne d]; exact e⟩)
    · exact .inr e
  · exact d _

/-! ### sorted(a list of lists of ints) -/
open PySem.W in
theorem each_refs : ∀ {as : List Addr} {nss : List (List Int)} {its : List Value}, Vals (as.map V.ref) its → as.length = nss.length → PySem.W.EachIs (fun (v : Value) (b : Addr × List Int) => v = .ref b.1) its (as.zip nss)
  | [], [], _, r, _ => by
    cases r
    exact .nil
  | a :: as, n :: ns, _, r, h => by
    cases r with
    | cons r1 r2 => exact .cons r1 (each_refs r2 (by simpa using h))
  | [], _ :: _, _, _, h => by simp at h
  | _ :: _, [], _, _, h => by simp at h
theorem refs_each : ∀ {out : List Value} {zs : List (Addr × List Int)}, PySem.W.EachIs (fun (v : Value) (b : Addr × List Int) => v = .ref b.1) out zs → Vals ((zs.map (·.1)).map V.ref) out
  | _, _, .nil => .nil
  | _, _, .cons e r => .cons e (refs_each r)
theorem LLs.zip {H : Hp} : ∀ {as : List Addr} {nss : List (List Int)}, LLs H as nss → ∀ z ∈ as.zip nss, IL H z.1 z.2
  | [], [], _, z, h => by cases h
  | a :: as, n :: ns, q, z, h => by
    rcases List.mem_cons.mp h with rfl | h
    · exact q.1
    · exact q.2.zip z h
  | [], _ :: _, q, _, _ => q.elim
  | _ :: _, [], q, _, _ => q.elim
theorem LLs.unzip {H : Hp} : ∀ {zs : List (Addr × List Int)}, (∀ z ∈ zs, IL H z.1 z.2) → LLs H (zs.map (·.1)) (zs.map (·.2))
  | [], _ => trivial
  | z :: zs, h => ⟨h z (List.mem_cons_self ..), LLs.unzip fun y hy => h y (List.mem_cons_of_mem _ hy)⟩
theorem zip_snd : ∀ {as : List Addr} {nss : List (List Int)}, as.length = nss.length → (as.zip nss).map (·.2) = nss
  | [], [], _ => rfl
  | a :: as, n :: ns, h => congrArg (n :: ·) (zip_snd (by simpa using h))
  | [], _ :: _, h => by simp at h
  | _ :: _, [], h => by simp at h
theorem zip_fst : ∀ {as : List Addr} {nss : List (List Int)}, as.length = nss.length → (as.zip nss).map (·.1) = as
  | [], [], _ => rfl
  | a :: as, n :: ns, h => congrArg (a :: ·) (zip_fst (by simpa using h))
  | [], _ :: _, h => by simp at h
  | _ :: _, [], h => by simp at h
abbrev Rise (l : List (List Int)) : Prop := l.Pairwise fun a b => a ≤ b
def rSortedL : List V → Hp → VK → Prop := fun vs H Q => ∃ (a : Addr) (as : List Addr) (nss : List (List Int)), vs = [.ref a] ∧ LL H a as nss ∧
  ∀ (p : Addr) (as' : List Addr) (nss' : List (List Int)), nss'.Perm nss → Rise nss' → (∀ x ∈ as', x ∈ as) → LLs H as' nss' → H p = none → Q (.ref p) (upd H p (.lst (as'.map V.ref)))
theorem cr_sortedL {X : Cx} (hu : X.A.units + 65 < cLine) : CallR X (.builtin "sorted") rSortedL := by
  intro pins s σ H vs us Q I r h
  obtain ⟨a, as, nss, rfl, ⟨ha, hL⟩, q⟩ := h
  have hlen := hL.len
  obtain ⟨its, rv, hl, hz⟩ := I.list (sq ha)
  rw [Vals.ref1 r]
  rw [rlen] at hz
  have e := each_refs rv hlen
  have er : PySem.W.EachIs (fun (v : Value) (b : Addr × List Int) => ∃ as, Reads s.heap v (.list (b.2.map PyData.int)) as) its (as.zip nss) := by
    refine PySem.W.EachIs.of_zip e.length fun p hp => ?_
    have h1 := PySem.W.EachIs.zip e p hp
    have h2 : IL H p.2.1 p.2.2 := hL.zip p.2 (List.of_mem_zip hp).2
    rw [h1]
    exact Dp.reads I _ (.ref p.2.1) _ (dp_ints (sq h2)) rfl
  have hzl : (as.zip nss).length = nss.length := by rw [List.length_zip]; omega
  have hdep : ∀ b ∈ as.zip nss, X.A.units + 2 + (PyData.list (b.2.map PyData.int)).depth < cLine := fun b _ => by
    have : (PyData.list (b.2.map PyData.int)).depth = 1 := by rw [PyData.depth, (sh_all_ints b.2).2]
    omega
  refine PySem.W.sorted_data (enc := fun b : Addr × List Int => PyData.list (b.2.map PyData.int)) hl.isList e er (PySem.W.AllAlike.of fun b b' => by rw [PySem.W.alike]; exact PySem.W.alike_ints _ _) (PySem.W.Sortable.others fun b => ⟨fun z => (by cases z), fun xs z => (by cases z)⟩) (by rw [hzl]; omega) hdep fun out ho hout => ?_
  have hz2 := refs_each hout
  generalize hzs : (as.zip nss).mergeSort (PySem.W.dataLe false fun b : Addr × List Int => PyData.list (b.2.map PyData.int)) = zs at *
  have hp : zs.Perm (as.zip nss) := by rw [← hzs]; exact List.mergeSort_perm _ _
  have hr : Rise (zs.map (·.2)) := by
    rw [PySem.W.dataLe_rows (fun b : Addr × List Int => b.2)] at hzs
    have := List.pairwise_mergeSort (le := fun p q : Addr × List Int => decide (p.2 ≤ q.2)) (fun a b c h1 h2 => decide_eq_true (List.le_trans (of_decide_eq_true h1) (of_decide_eq_true h2))) (fun a b => by
      rcases List.le_total a.2 b.2 with h | h
      · simp [h]
      · simp [h]) (as.zip nss)
    rw [hzs] at this
    rw [Rise, List.pairwise_map]
    exact this.imp fun h => of_decide_eq_true h
  obtain ⟨ep, he'⟩ := PyProof.Rows.sortedAll_at s.heap its out.toArray
  have hlen2 : ((zs.map (·.1)).map V.ref).length ≤ sizeLine := by
    rw [rlen, List.length_map, hp.length_eq, hzl]
    omega
  refine ⟨.ref _, upd H (s.heap.objs.size + 1) (.lst ((zs.map (·.1)).map V.ref)), I.laid (t' := s.toks) (fun _ _ => PyProof.Rows.sortedAll_old) (Nat.le_succ _) ⟨hlen2, out, ep, hz2, he'⟩, rfl, q _ (zs.map (·.1)) (zs.map (·.2)) ?_ hr (fun x hx => ?_) (LLs.unzip fun z hz => hL.zip z (hp.mem_iff.mp hz)) (I.hok.fresh (Nat.le_succ _))⟩
  · have := hp.map (·.2)
    rw [zip_snd hlen] at this
    exact this
  · obtain ⟨z, hz, rfl⟩ := List.mem_map.mp hx
    exact (List.of_mem_zip (show (z.1, z.2) ∈ as.zip nss from hp.mem_iff.mp hz)).1
theorem rise_unique : ∀ {l m : List (List Int)}, l.Perm m → Rise l → Rise m → l = m
  | [], m, h, _, _ => (List.nil_perm.mp h).symm
  | x :: l, [], h, _, _ => absurd h.length_eq (by simp)
  | x :: l, y :: m, h, hl, hm => by
    obtain ⟨a1, a2⟩ := List.pairwise_cons.mp hl
    obtain ⟨b1, b2⟩ := List.pairwise_cons.mp hm
    have e : x = y := by
      have hx : x ∈ y :: m := h.mem_iff.mp (List.mem_cons_self ..)
      have hy : y ∈ x :: l := h.mem_iff.mpr (List.mem_cons_self ..)
      rcases List.mem_cons.mp hx with e | hx
      · exact e
      · rcases List.mem_cons.mp hy with e | hy
        · exact e.symm
        · exact List.le_antisymm (a1 y hy) (b1 x hx)
    subst e
    rw [rise_unique ((List.perm_cons x).mp h) a2 b2]

/-! ### what the elders are: each turned is the setting; unlike; as many as unlike great piles -/
theorem down1_app (a b : List Int) : down1 (a ++ b) = down1 a ++ down1 b := by
  unfold down1
  rw [List.filter_append, List.map_append]
theorem down1_up : ∀ {l : List Int}, (∀ x ∈ l, 1 ≤ x) → down1 (l.map (· + 1)) = l
  | [], _ => rfl
  | x :: r, h => by
    have h1 := h x (List.mem_cons_self ..)
    rw [List.map_cons, down1_cons, if_pos (by omega), down1_up fun z hz => h z (List.mem_cons_of_mem _ hz)]
    congr 1
    omega
theorem down1_ones : ∀ n : Nat, down1 (List.replicate n 1) = []
  | 0 => rfl
  | n + 1 => by
    rw [List.replicate_succ, down1_cons, if_neg (by decide), down1_ones n]
theorem perm_mid {ns : List Int} {j : Nat} {p : Int} (hp : ns[j]? = some p) : (p :: (ns.take j ++ ns.drop (j + 1))).Perm ns := by
  obtain ⟨hj, e⟩ := List.getElem?_eq_some_iff.mp hp
  have h1 : ns = ns.take j ++ (p :: ns.drop (j + 1)) := by
    rw [← e, List.getElem_cons_drop, List.take_append_drop]
  have h2 : (ns.take j ++ (p :: ns.drop (j + 1))).Perm (p :: (ns.take j ++ ns.drop (j + 1))) := List.perm_middle
  rw [← h1] at h2
  exact h2.symm
theorem elder_length {ns : List Int} {j : Nat} {p : Int} (hp : ns[j]? = some p) (hb : p ≥ (ns.length : Int) - 1) : ((elderAt ns j p).length : Int) = p := by
  obtain ⟨_, s2⟩ := take_drop_sum hp
  unfold elderAt
  rw [List.length_append, List.length_map, List.length_replicate]
  omega
theorem elder_turn {n : Int} {ns : List Int} (h : IsSet n ns) {j : Nat} {p : Int} (hp : ns[j]? = some p) (hb : p ≥ (ns.length : Int) - 1) : turn (elderAt ns j p) = ns := by
  have hl := elder_length hp hb
  have hs := elder_set h hp hb
  have sub := take_drop_sub ns j
  have hd : down1 (elderAt ns j p) = ns.take j ++ ns.drop (j + 1) := by
    unfold elderAt
    rw [down1_app, down1_ones, List.append_nil, down1_up fun x hx => h.1.pos x (sub.subset hx)]
  refine falls_unique ?_ (turn_set hs).1.falls h.1.falls
  unfold turn
  rw [hl, hd]
  exact (insD_perm _ _).trans (perm_mid hp)
theorem eldersTo_mem {ns : List Int} : ∀ {i : Nat}, i ≤ ns.length → ∀ {m : List Int}, m ∈ eldersTo ns i ↔ ∃ j p, j < i ∧ ns[j]? = some p ∧ elderOk ns j = true ∧ m = elderAt ns j p
  | 0, _, m => ⟨fun h => (by cases h), fun ⟨j, p, h, _⟩ => by omega⟩
  | i + 1, hi, m => by
    have gi : ns[i]? = some ns[i] := List.getElem?_eq_getElem hi
    unfold eldersTo
    split
    · rename_i c
      rw [List.mem_append, eldersTo_mem (i := i) (by omega), List.mem_singleton, getD_of gi]
      constructor
      · rintro (⟨j, p, h1, h2, h3, h4⟩ | h)
        · exact ⟨j, p, by omega, h2, h3, h4⟩
        · exact ⟨i, _, by omega, gi, c, h⟩
      · rintro ⟨j, p, h1, h2, h3, h4⟩
        rcases Nat.lt_or_ge j i with l | l
        · exact .inl ⟨j, p, l, h2, h3, h4⟩
        · obtain rfl : j = i := by omega
          rw [gi] at h2
          cases h2
          exact .inr h4
    · rename_i c
      rw [eldersTo_mem (i := i) (by omega)]
      constructor
      · rintro ⟨j, p, h1, h2, h3, h4⟩
        exact ⟨j, p, by omega, h2, h3, h4⟩
      · rintro ⟨j, p, h1, h2, h3, h4⟩
        rcases Nat.lt_or_ge j i with l | l
        · exact ⟨j, p, l, h2, h3, h4⟩
        · obtain rfl : j = i := by omega
          exact absurd h3 c
theorem elderOk_ge {ns : List Int} {j : Nat} {p : Int} (hp : ns[j]? = some p) (h : elderOk ns j = true) : p ≥ (ns.length : Int) - 1 := by
  have := of_decide_eq_true (Bool.and_eq_true_iff.mp h).1
  rwa [getD_of hp] at this
theorem elderOk_new {ns : List Int} {j : Nat} {p q : Int} (hp : ns[j + 1]? = some p) (hq : ns[j]? = some q) (h : elderOk ns (j + 1) = true) : q ≠ p := by
  have := (Bool.and_eq_true_iff.mp h).2
  rw [show (j + 1 == 0) = false from rfl, Bool.false_or, getD_of hp, show j + 1 - 1 = j by omega, getD_of hq] at this
  exact bne_iff_ne.mp this
theorem falls_get {ns : List Int} (h : Falls ns) {i j : Nat} {x y : Int} (hi : ns[i]? = some x) (hj : ns[j]? = some y) (l : i ≤ j) : y ≤ x := by
  obtain ⟨a1, a2⟩ := List.getElem?_eq_some_iff.mp hi
  obtain ⟨b1, b2⟩ := List.getElem?_eq_some_iff.mp hj
  rcases Nat.lt_or_ge i j with l' | l'
  · have := List.pairwise_iff_getElem.mp h i j a1 b1 l'
    rw [← a2, ← b2]
    exact this
  · obtain rfl : i = j := by omega
    rw [hi] at hj
    cases hj
    exact Int.le_refl _
theorem elderOk_lt {ns : List Int} (h : Falls ns) {i j : Nat} {x y : Int} (hi : ns[i]? = some x) (hj : ns[j]? = some y) (ho : elderOk ns j = true) (l : i < j) : y < x := by
  obtain ⟨j, rfl⟩ : ∃ k, j = k + 1 := ⟨j - 1, by omega⟩
  have b1 := (List.getElem?_eq_some_iff.mp hj).1
  have gq : ns[j]? = some (ns[j]'(by omega)) := List.getElem?_eq_getElem (by omega)
  have h1 := falls_get h hi gq (by omega)
  have h2 := falls_get h gq hj (by omega)
  have h3 := elderOk_new hj gq ho
  omega
theorem eldersTo_nodup {ns : List Int} (h : Falls ns) : ∀ {i : Nat}, i ≤ ns.length → (eldersTo ns i).Nodup
  | 0, _ => List.Pairwise.nil
  | i + 1, hi => by
    have ih := eldersTo_nodup h (i := i) (by omega)
    have gi : ns[i]? = some ns[i] := List.getElem?_eq_getElem hi
    unfold eldersTo
    split
    · rename_i c
      refine List.nodup_append.mpr ⟨ih, List.pairwise_singleton _ _, fun a ha b hb => ?_⟩
      rw [List.mem_singleton.mp hb, getD_of gi]
      obtain ⟨j, p, h1, h2, h3, rfl⟩ := (eldersTo_mem (by omega)).mp ha
      intro e
      have l1 := elder_length h2 (elderOk_ge h2 h3)
      have l2 := elder_length gi (elderOk_ge gi c)
      have l3 := elderOk_lt h h2 gi c h1
      rw [e] at l1
      omega
    · exact ih
theorem rise_strict : ∀ {l : List (List Int)}, Rise l → l.Nodup → l.Pairwise fun a b => ¬ b ≤ a := fun h1 h2 => by
  refine (h1.and h2).imp fun ⟨h, n⟩ g => n (List.le_antisymm h g)
/-! the count -/
theorem filter_pre (t : Int) : ∀ {ns : List Int}, Falls ns → ∃ r, r ≤ ns.length ∧ ns.filter (fun z => decide (z ≥ t)) = ns.take r ∧ ∀ j x, ns[j]? = some x → (j < r ↔ x ≥ t)
  | [], _ => ⟨0, Nat.le_refl _, rfl, fun j x h => by simp at h⟩
  | a :: r, h => by
    obtain ⟨h1, h2⟩ := List.pairwise_cons.mp h
    by_cases c : a ≥ t
    · obtain ⟨k, k1, k2, k3⟩ := filter_pre t h2
      refine ⟨k + 1, by rw [List.length_cons]; omega, ?_, fun j x hx => ?_⟩
      · rw [List.filter_cons, if_pos (decide_eq_true c), k2] <;> rfl
      · cases j with
        | zero =>
          have : a = x := Option.some.inj hx
          subst this
          exact ⟨fun _ => c, fun _ => by omega⟩
        | succ j =>
          have := k3 j x hx
          omega
    · refine ⟨0, Nat.zero_le _, ?_, fun j x hx => ?_⟩
      · rw [List.take_zero, List.filter_eq_nil_iff]
        intro x hx
        simp only [decide_eq_true_eq]
        rcases List.mem_cons.mp hx with rfl | hx
        · exact c
        · have := h1 x hx
          omega
      · have hx' := List.mem_of_getElem? hx
        constructor
        · intro z
          omega
        · intro z
          rcases List.mem_cons.mp hx' with rfl | hx'
          · exact absurd z c
          · have := h1 x hx'
            omega
theorem getD_take {ns : List Int} {r i : Nat} (h : i < r) : (ns.take r).getD i 0 = ns.getD i 0 := by
  rw [List.getD_eq_getElem?_getD, List.getD_eq_getElem?_getD, List.getElem?_take, if_pos h]
theorem firstMet_elders {ns : List Int} (h : Falls ns) {r : Nat} (hr : r ≤ ns.length) (hk : ∀ j x, ns[j]? = some x → (j < r ↔ x ≥ (ns.length : Int) - 1)) : ∀ i, i ≤ r → (PyProof.Rows.firstMet (fun i => (ns.take r).getD i 0) i).length = (eldersTo ns i).length
  | 0, _ => rfl
  | i + 1, hi => by
    have ih := firstMet_elders h hr hk i (by omega)
    have gi : ns[i]? = some (ns[i]'(by omega)) := List.getElem?_eq_getElem (by omega)
    have hge := (hk i _ gi).mp (by omega)
    rw [PyProof.Rows.firstMet_succ]
    show (if (PyProof.Rows.firstMet (fun i => (ns.take r).getD i 0) i).any (· == (ns.take r).getD i 0) then _ else _ ++ [_]).length = _
    rw [PyProof.Rows.firstMet_any, getD_take (show i < r by omega), getD_of gi]
    have key : (((List.range i).map fun i => (ns.take r).getD i 0).any (· == ns[i]'(by omega))) = !elderOk ns i := by
      have hgd : decide ((ns[i]'(by omega)) ≥ (ns.length : Int) - 1) = true := decide_eq_true hge
      cases i with
      | zero =>
        unfold elderOk
        rw [getD_of gi, hgd] <;> rfl
      | succ i =>
        have gp : ns[i]? = some (ns[i]'(by omega)) := List.getElem?_eq_getElem (by omega)
        have hfi := falls_get h gp gi (by omega)
        unfold elderOk
        rw [getD_of gi, hgd, show i + 1 - 1 = i by omega, getD_of gp, Bool.true_and, show (i + 1 == 0) = false from rfl, Bool.false_or]
        by_cases e : (ns[i]'(by omega)) = ns[i + 1]'(by omega)
        · rw [show ((ns[i]'(by omega)) != ns[i + 1]'(by omega)) = false by rw [e]; simp]
          rw [List.any_eq_true.mpr ⟨ns[i]'(by omega), List.mem_map.mpr ⟨i, List.mem_range.mpr (by omega), by show (ns.take r).getD i 0 = _; rw [getD_take (show i < r by omega), getD_of gp]⟩, by rw [e]; simp⟩] <;> rfl
        · rw [show ((ns[i]'(by omega)) != ns[i + 1]'(by omega)) = true from bne_iff_ne.mpr e, Bool.not_true]
          rw [List.any_eq_false]
          intro x hx
          obtain ⟨j, hj, rfl⟩ := List.mem_map.mp hx
          have hj := List.mem_range.mp hj
          have gj : ns[j]? = some (ns[j]'(by omega)) := List.getElem?_eq_getElem (by omega)
          rw [getD_take (show j < r by omega), getD_of gj]
          have := falls_get h gj gp (by omega)
          simp only [beq_iff_eq]
          omega
    rw [key]
    rw [show eldersTo ns (i + 1) = (if elderOk ns i = true then eldersTo ns i ++ [elderAt ns i (ns.getD i 0)] else eldersTo ns i) from rfl]
    cases hb : elderOk ns i with
    | true =>
      rw [if_neg (by decide), if_pos rfl, List.length_append, List.length_append, ih] <;> rfl
    | false =>
      rw [if_pos (by decide), if_neg (by decide), ih]
theorem eldersTo_stay {ns : List Int} {r : Nat} (hk : ∀ j x, ns[j]? = some x → (j < r ↔ x ≥ (ns.length : Int) - 1)) : ∀ {i : Nat}, r ≤ i → i ≤ ns.length → eldersTo ns i = eldersTo ns r
  | 0, h1, _ => by
    obtain rfl : r = 0 := by omega
    rfl
  | i + 1, h1, h2 => by
    rcases Nat.lt_or_ge i r with l | l
    · obtain rfl : r = i + 1 := by omega
      rfl
    · rw [← eldersTo_stay hk l (by omega)]
      have gi : ns[i]? = some ns[i] := List.getElem?_eq_getElem h2
      have : ¬ ns[i] ≥ (ns.length : Int) - 1 := fun z => by
        have := (hk i _ gi).mpr z
        omega
      show (if elderOk ns i = true then _ else _) = _
      rw [if_neg]
      intro c
      exact this (elderOk_ge gi c)
theorem elders_count {ns : List Int} (h : Falls ns) : (PyProof.Rows.firstMet (fun i => (ns.filter fun z => decide (z ≥ (ns.length : Int) - 1)).getD i 0) (ns.filter fun z => decide (z ≥ (ns.length : Int) - 1)).length).length = (eldersU ns).length := by
  obtain ⟨r, h1, h2, h3⟩ := filter_pre ((ns.length : Int) - 1) h
  rw [h2, List.length_take, Nat.min_eq_left h1, firstMet_elders h h1 h3 r (Nat.le_refl _)]
  unfold eldersU
  rw [eldersTo_stay h3 h1 (Nat.le_refl _)]
/-! the setting is among the next one's elders -/
theorem insD_at_ex (x : Int) : ∀ l : List Int, ∃ j, j ≤ l.length ∧ insD x l = l.take j ++ [x] ++ l.drop j ∧ (∀ i y, i < j → l[i]? = some y → y > x)
  | [] => ⟨0, Nat.le_refl _, rfl, fun _ _ h => by omega⟩
  | a :: r => by
    unfold insD
    split
    · rename_i c
      obtain ⟨j, h1, h2, h3⟩ := insD_at_ex x r
      refine ⟨j + 1, by rw [List.length_cons]; omega, by rw [h2] <;> rfl, fun i y hi hy => ?_⟩
      cases i with
      | zero =>
        have : a = y := Option.some.inj hy
        omega
      | succ i => exact h3 i y (by omega) hy
    · exact ⟨0, Nat.zero_le _, rfl, fun _ _ h => by omega⟩
theorem up_down1 : ∀ {ns : List Int}, (∀ x ∈ ns, 1 ≤ x) → Falls ns → (down1 ns).map (· + 1) ++ List.replicate (ns.length - (down1 ns).length) 1 = ns
  | [], _, _ => rfl
  | x :: r, h, hf => by
    obtain ⟨f1, f2⟩ := List.pairwise_cons.mp hf
    have h1 := h x (List.mem_cons_self ..)
    have ih := up_down1 (ns := r) (fun z hz => h z (List.mem_cons_of_mem _ hz)) f2
    have hl := down1_length r
    rw [down1_cons]
    split
    · rw [List.map_cons, List.length_cons, List.length_cons, Nat.add_sub_add_right, List.cons_append, ih]
      congr 1
      omega
    · have e1 : x = 1 := by omega
      subst e1
      have hd : down1 r = [] := by
        rw [List.eq_nil_iff_forall_not_mem]
        intro z hz
        obtain ⟨m1, m2⟩ := mem_down1.mp hz
        have := f1 _ m1
        omega
      rw [hd] at ih ⊢
      rw [List.map_nil, List.nil_append, List.length_nil, Nat.sub_zero] at ih ⊢
      rw [List.length_cons, List.replicate_succ, ih]
theorem elders_turn {n : Int} {ns : List Int} (h : IsSet n ns) : ns ∈ eldersU (turn ns) := by
  obtain ⟨j, h1, h2, h3⟩ := insD_at_ex (ns.length : Int) (down1 ns)
  have hl := down1_length ns
  have htl : (turn ns).length = (down1 ns).length + 1 := (insD_perm _ _).length_eq
  have ht : turn ns = (down1 ns).take j ++ [(ns.length : Int)] ++ (down1 ns).drop j := h2
  have hlt : ((down1 ns).take j).length = j := by rw [List.length_take]; omega
  have gj : (turn ns)[j]? = some (ns.length : Int) := by
    rw [ht, List.append_assoc, List.getElem?_append_right (by omega), hlt, Nat.sub_self] <;> rfl
  have e1 : (turn ns).take j = (down1 ns).take j := by
    rw [ht, List.append_assoc, List.take_left' hlt]
  have e2 : (turn ns).drop (j + 1) = (down1 ns).drop j := by
    rw [ht, List.drop_left' (by rw [List.length_append, hlt] <;> rfl)]
  refine (eldersTo_mem (Nat.le_refl _)).mpr ⟨j, _, by omega, gj, ?_, ?_⟩
  · unfold elderOk
    rw [getD_of gj, decide_eq_true (by omega), Bool.true_and]
    cases j with
    | zero => rfl
    | succ j =>
      have gq : (down1 ns)[j]? = some ((down1 ns)[j]'(by omega)) := List.getElem?_eq_getElem (by omega)
      have gp : (turn ns)[j]? = some ((down1 ns)[j]'(by omega)) := by
        have : (turn ns)[j]? = ((turn ns).take (j + 1))[j]? := by rw [List.getElem?_take, if_pos (by omega)]
        rw [this, e1, List.getElem?_take, if_pos (by omega), gq]
      have := h3 j _ (by omega) gq
      rw [show j + 1 - 1 = j by omega, getD_of gp, show (((down1 ns)[j]'(by omega)) != (ns.length : Int)) = true from bne_iff_ne.mpr (by omega)]
      simp
  · unfold elderAt
    rw [e1, e2, List.take_append_drop, htl]
    have := up_down1 h.1.pos h.1.falls
    rw [show ((ns.length : Int) - ((((down1 ns).length + 1 : Nat) : Int) - 1)).toNat = ns.length - (down1 ns).length by omega]
    exact this.symm

/-! ### >= of two lists of ints; len(set(a list of ints)) -/
def rGeL (K : PySem.W.Frag) : V → V → Hp → VK → Prop := fun x y H Q => ∃ (a b : Addr) (ns ms : List Int), x = .ref a ∧ y = .ref b ∧ SqL K H a (ns.map V.int) ∧ SqL K H b (ms.map V.int) ∧ Q (.bl (decide (ms ≤ ns))) H
theorem op_geL {X : Cx} (hu : X.A.units + 65 < cLine) : OpR X (compareOp .GtE) (rGeL X.K) := by
  intro pins s σ H x y v u Q I rx ry h
  obtain ⟨a, b, ns, ms, rfl, rfl, h1, h2, q⟩ := h
  obtain ⟨as, r1⟩ := Dp.reads I _ (.ref a) v (dp_ints h1) rx
  obtain ⟨bs, r2⟩ := Dp.reads I _ (.ref b) u (dp_ints h2) ry
  have dep : ∀ l : List Int, (PyData.list (l.map PyData.int)).depth = 1 := fun l => by rw [PyData.depth, (sh_all_ints l).2]
  refine PySem.W.ge_data r1 r2 (by rw [PySem.W.alike]; exact PySem.W.alike_ints _ _) (fun z => by cases z) (by rw [dep, dep]; omega) ⟨.bl _, H, I, ?_, q⟩
  show Value.bool _ = Value.bool _
  rw [PySem.W.dataLt_list]
  show Value.bool (!PySem.W.rowLt (ns.map .int) (ms.map .int)) = _
  rw [PySem.W.dataLt_ints]
  by_cases c : ns < ms
  · have c' : ¬ ms ≤ ns := fun r => List.not_lt.mpr r c
    simp [c, c']
  · have c' : ms ≤ ns := List.not_lt.mp c
    simp [c, c']
def tLenSet (K : PySem.W.Frag) (ta : TE) : TE := fun σ H Q => ta σ H fun x H1 => ∃ (l : Addr) (ns : List Int), x = .ref l ∧ SqL K H1 l (ns.map V.int) ∧ ns.length ≤ 4000 ∧ Q (.int ((PyProof.Rows.firstMet (fun i => ns.getD i 0) ns.length).length : Nat)) H1
theorem pe_lenSet {X : Cx} {a : Expr} {ta : TE} {p p2 q pos : Pos} (hg : Gl X "len") (hm : X.mg "len" = none) (hg2 : Gl X "set") (hm2 : X.mg "set" = none) (ha : PE X a ta) (hc : X.calm = true := by rfl)
    (na : starEach [a] X.env = (false, eval a X.env) :: starEach [] X.env := by rfl) : PE X (.Call (.Name "len" p) [.Call (.Name "set" p2) [a] [] q] [] pos) (tLenSet X.K ta) := by
  refine ⟨fun pins s σ H Q I h => ?_⟩
  refine Call_ (ld_blt I hg hm boot_len ?_)
  refine PyProof.Rows.callWith_builtin1 (PyProof.Rows.args_cons ?_ rfl) rfl rfl
  refine Call_ (ld_blt I hg2 hm2 boot_set ?_)
  refine PyProof.Rows.callWith_type1 (PyProof.Rows.args_cons (thn (ha.run pins s σ H _ I h) fun v s1 ⟨x, H1, I1, r1, q1⟩ => PyProof.Rows.args_nil ?_) na) na rfl
  obtain ⟨l, ns, rfl, hq, hl, q1⟩ := q1
  cases r1
  obtain ⟨its, r, pl, hz⟩ := I1.list hq
  have hlen : its.toArray.size = ns.length := by rw [List.size_toArray, ← r.length, List.length_map]
  have hfl := PyProof.Rows.firstMet_length_le (fun i => ns.getD i 0) ns.length
  refine call_set_list (I1.ok.hd hc) pl.isList (by simpa using RZ.intsAre_vals r) (by rw [hlen]; unfold scanBound; omega) fun h' tk hS hk => ?_
  refine PyProof.Rows.args_nil ?_
  rw [hlen] at hS
  obtain ⟨o, es, ep, t, ho, hex, hd, _, _, _, hf, hn⟩ := hS
  have I2 : Inv X pins σ H1 { s1 with heap := h', toks := tk } := I1.kept fun b o e => hk b o (Heap.lt_size e) e
  exact call_len_set ho hex hd hf (by rw [hn] <;> omega) ⟨.int _, H1, I2.tok _, ⟨_, by rw [hn]⟩, q1⟩

/-! ### the text -/
def top (i : Nat) : Stmt := PySem.Challenge.pw_pilewheel_k12_whole_elders.main.body.getD i (.Pass ⟨0, 0, 0, 0⟩)
abbrev s_is_setting : Stmt := top 5
abbrev s_must_be : Stmt := top 6
abbrev s_turned_by : Stmt := top 7
abbrev s_turned : Stmt := top 8
abbrev s_elder_by : Stmt := top 10
abbrev s_elders_of : Stmt := top 11
abbrev s_law_cell : Stmt := top 13
abbrev s_law_whole : Stmt := top 14
abbrev s_law_next : Stmt := top 15
abbrev s_law_fallen : Stmt := top 16
abbrev s_law_turned : Stmt := top 17
abbrev s_law_stair : Stmt := top 18
abbrev s_law_by_marks : Stmt := top 19
abbrev s_law_drawn_marks : Stmt := top 20
abbrev s_law_elder : Stmt := top 21
abbrev s_law_drawn_piles : Stmt := top 22
abbrev s_law_setting : Stmt := top 23
abbrev s_law_good : Stmt := top 24
abbrev s_law : Stmt := top 25
structure Txt (K : PySem.W.Frag) (mg : Str → Option Value) : Prop where
  d_is_setting : DefAt K mg "is_setting" s_is_setting
  d_must_be : DefAt K mg "must_be" s_must_be
  d_turned_by : DefAt K mg "turned_by" s_turned_by
  d_turned : DefAt K mg "turned" s_turned
  d_elder_by : DefAt K mg "elder_by" s_elder_by
  d_elders_of : DefAt K mg "elders_of" s_elders_of
  d_law_cell : DefAt K mg "_law_cell" s_law_cell
  d_law_whole : DefAt K mg "_law_whole" s_law_whole
  d_law_next : DefAt K mg "_law_next" s_law_next
  d_law_fallen : DefAt K mg "_law_fallen" s_law_fallen
  d_law_turned : DefAt K mg "_law_turned" s_law_turned
  d_law_stair : DefAt K mg "_law_stair" s_law_stair
  d_law_by_marks : DefAt K mg "_law_by_marks" s_law_by_marks
  d_law_drawn_marks : DefAt K mg "_law_drawn_marks" s_law_drawn_marks
  d_law_elder : DefAt K mg "_law_elder" s_law_elder
  d_law_drawn_piles : DefAt K mg "_law_drawn_piles" s_law_drawn_piles
  d_law_setting : DefAt K mg "_law_setting" s_law_setting
  d_law_good : DefAt K mg "_law_good" s_law_good
  c_MOST : ∃ u, mg "MOST" = some u ∧ RelV (.int 100) u
  m_all : mg "all" = none
  m_bool : mg "bool" = none
  m_int : mg "int" = none
  m_isinstance : mg "isinstance" = none
  m_len : mg "len" = none
  m_list : mg "list" = none
  m_min : mg "min" = none
  m_range : mg "range" = none
  m_reversed : mg "reversed" = none
  m_set : mg "set" = none
  m_sorted : mg "sorted" = none
  m_sum : mg "sum" = none

section
variable {P : Program} {w : World} {K : PySem.W.Frag} {mg : Str → Option Value} {base : Heap}
theorem sc_is_setting : FnScope ["piles", "k"] ["piles"] (defScope s_is_setting) := ⟨rfl, rfl, rfl, by decide +kernel, rfl, by decide +kernel, by decide +kernel⟩
def sp_is_setting : Sp := fun vs H Q _ => ∃ (a : Addr) (ns : List Int), vs = [.ref a] ∧ IL H a ns ∧ ns.length ≤ 1000 ∧ ∀ b : Bool, (b = true ↔ Good ns ∧ ns.sum ≤ 100) → Q (.bl b) H
theorem ok_is_setting (T : Txt K mg) : Cal P w K mg base CX0 1 "is_setting" ["piles"] sp_is_setting := by
  refine cal_mk T.d_is_setting sc_is_setting ?_ (fun _ _ _ _ _ _ us hl => match us, hl with | [_], _ => rfl) (fun f cdv A outer s H vs Q E hr h => ?_)
  · intro vs H Q E h
    obtain ⟨a, ns, rfl, _⟩ := h
    rfl
  obtain ⟨a, ns, rfl, hS, hl, q⟩ := h
  refine ⟨_, (pss_cons (ps_if (PW.pt (pw_or (pt_cmpR op_lt (pe_callB call_len_seq (by rfl) T.m_len PySem.boot_len (pa_cons (pv 0) pa_nil)) pe_int (nomark _)) (pw_or1 (pt_cmpR op_gt (pe_callB (cr_sum rfl) (by rfl) T.m_sum (by decide +kernel) (pa_cons (pv 0) pa_nil)) (pe_globX T.c_MOST) (nomark _)))))
      (pss_one (ps_ret pe_bl)) pss_nil)
      (pss_cons (ps_for PassesOwn.never rfl (pi_range1 (by rfl) T.m_range (pa_cons (pe_callB call_len_seq (by rfl) T.m_len PySem.boot_len (pa_cons (pv 0) pa_nil)) pa_nil)) (pg_name (i := 1) sc_is_setting.nd rfl (Or.inl rfl))
      (pss_cons (ps_if (pt_cmpR op_lt (pe_ix ix_list (pv 0) (pv 1) (fun _ _ => rfl)) pe_int (nomark _))
      (pss_one (ps_ret pe_bl)) pss_nil)
      (pss_one (ps_if (PW.pt (pw_and (pt_cmpR op_gt (pv 1) pe_int (nomark _)) (pw_and1 (pt_cmpR op_gt (pe_ix ix_list (pv 0) (pv 1) (fun _ _ => rfl)) (pe_ix ix_list (pv 0) (pe_op op_sub (pv 1) pe_int) (fun _ _ => rfl)) (nomark _)))))
      (pss_one (ps_ret pe_bl)) pss_nil))))
      (pss_one (ps_ret pe_bl)))), ?_⟩
  have no : (¬ (Good ns ∧ ns.sum ≤ 100)) → Q (.bl false) H := fun h => q false ⟨fun z => (by cases z), fun z => absurd z h⟩
  refine ⟨_, rfl, a, _, rfl, .inl (sq hS), _, _, rfl, rfl, _, rfl, ite2 (fun c => ?_) (fun c => ⟨_, rfl, a, ns, rfl, sq hS, _, _, rfl, rfl, _, rfl, ite2 (fun c2 => ?_) (fun c2 => ?_)⟩)⟩
  · refine no fun h => ?_
    have c' : ((ns.map V.int).length : Int) < 1 := of_decide_eq_true c
    rw [nlen] at c'
    have := List.length_pos_iff.mpr h.1.ne
    omega
  · refine no fun h => ?_
    have c' : (100 : Int) < ns.sum := of_decide_eq_true c2
    omega
  · have c1' : ¬ ((ns.map V.int).length : Int) < 1 := fun h => c (decide_eq_true h)
    have c2' : ¬ (100 : Int) < ns.sum := fun h => c2 (decide_eq_true h)
    rw [nlen] at c1'
    refine ⟨_, rfl, a, _, rfl, .inl (sq hS), _, rfl, by rw [nlen]; omega, by rw [nlen]; omega, for_range (lo := 0) (n := ((ns.map V.int).length : Int).toNat) (fun i σ H' => ∃ y, σ = [some (.ref a), y] ∧ H' = H ∧ Adj ns i) ⟨none, rfl, rfl, fun j hj => by omega⟩ ?_ ?_⟩
    · intro i σ H' hi h
      obtain ⟨y, rfl, rfl, ha⟩ := h
      rw [nlen] at hi
      have hi : i < ns.length := by omega
      have gi : ns[i]? = some ns[i] := List.getElem?_eq_getElem hi
      have ai : atI (ns.map V.int) (0 + (i : Int)) = some (.int ns[i]) := at_of (j := i) (by omega) (int_get gi)
      refine ⟨_, rfl, _, rfl, a, _, _, .int ns[i], rfl, rfl, sq hS, ai, _, _, rfl, rfl, _, rfl, ite2 (fun d => ?_) (fun d => ?_)⟩
      · refine no fun h => ?_
        have d' : ns[i] < 1 := of_decide_eq_true d
        have := ((good_adj.mp h.1).2 i hi _ gi).1
        omega
      · have d' : ¬ ns[i] < 1 := fun h => d (decide_eq_true h)
        have more : (∀ y, 0 < i → ns[i - 1]? = some y → ns[i] ≤ y) → Adj ns (i + 1) := fun hy j hj x hx => by
          rcases Nat.lt_or_ge j i with l | l
          · exact ha j l x hx
          · obtain rfl : j = i := by omega
            obtain rfl : ns[j] = x := Option.some.inj (gi.symm.trans hx)
            exact ⟨by omega, hy⟩
        refine ⟨_, rfl, _, _, rfl, rfl, _, rfl, ite2 (fun e => ?_) (fun e => ?_)⟩
        · have e' : (0 : Int) < 0 + (i : Int) := of_decide_eq_true e
          have gp : ns[i - 1]? = some (ns[i - 1]'(by omega)) := List.getElem?_eq_getElem (by omega)
          refine ⟨_, rfl, _, rfl, a, _, _, .int ns[i], rfl, rfl, sq hS, ai, _, rfl, _, rfl, _, _, rfl, rfl, a, _, _, .int (ns[i - 1]'(by omega)), rfl, rfl, sq hS, at_of (j := i - 1) (by omega) (int_get gp), _, _, rfl, rfl, _, rfl, ite2 (fun f => ?_) (fun f => ?_)⟩
          · refine no fun h => ?_
            have f' : ns[i - 1]'(by omega) < ns[i] := of_decide_eq_true f
            have := ((good_adj.mp h.1).2 i hi _ gi).2 _ (by omega) gp
            omega
          · have f' : ¬ ns[i - 1]'(by omega) < ns[i] := fun h => f (decide_eq_true h)
            refine ⟨_, rfl, rfl, more fun y _ hy => ?_⟩
            rw [gp] at hy
            have := Option.some.inj hy
            omega
        · have e' : ¬ (0 : Int) < 0 + (i : Int) := fun h => e (decide_eq_true h)
          exact ⟨_, rfl, rfl, more fun y h0 _ => by omega⟩
    · intro σ H' h
      obtain ⟨y, rfl, rfl, ha⟩ := h
      rw [nlen, Int.toNat_natCast] at ha
      exact q true ⟨fun _ => ⟨good_adj.mpr ⟨fun e => by rw [e] at c1'; exact c1' (by decide), ha⟩, by omega⟩, fun _ => rfl⟩

end

section
variable {P : Program} {w : World} {K : PySem.W.Frag} {mg : Str → Option Value} {base : Heap}
theorem sc_must_be : FnScope ["piles"] ["piles"] (defScope s_must_be) := ⟨rfl, rfl, rfl, by decide +kernel, rfl, by decide +kernel, by decide +kernel⟩
/-- of a setting nothing is refused -/
def sp_must_be : Sp := fun vs H Q _ => ∃ (a : Addr) (ns : List Int), vs = [.ref a] ∧ IL H a ns ∧ Good ns ∧ ns.sum ≤ 100 ∧ Q .non H
theorem Good.le100 {ns : List Int} (h : Good ns) (h2 : ns.sum ≤ 100) : ns.length ≤ 100 := by
  have := len_le_sum h.pos
  omega
theorem ok_must_be (T : Txt K mg) : Cal P w K mg base CX0 2 "must_be" ["piles"] sp_must_be := by
  have C_is_setting := ok_is_setting (P := P) (w := w) (base := base) T
  refine cal_mk T.d_must_be sc_must_be ?_ (fun _ _ _ _ _ _ us hl => match us, hl with | [_], _ => rfl) (fun f cdv A outer s H vs Q E hr h => ?_)
  · intro vs H Q E h
    obtain ⟨a, ns, rfl, _⟩ := h
    rfl
  obtain ⟨a, ns, rfl, hS, hg, hs, q⟩ := h
  have hl := hg.le100 hs
  refine ⟨_, (pss_one (ps_if (pt_not (pt_val (pe_callF C_is_setting (hr.mono (by decide)) (pa_cons (pv 0) pa_nil))))
      (pss_one ps_never) pss_nil)), ?_⟩
  refine ⟨_, rfl, a, ns, rfl, hS, by omega, fun b hb => ?_⟩
  obtain rfl : b = true := hb.mpr ⟨hg, hs⟩
  exact ⟨true, rfl, q⟩

end

section
variable {P : Program} {w : World} {K : PySem.W.Frag} {mg : Str → Option Value} {base : Heap}
theorem sc_turned_by : FnScope ["piles", "rest", "pile", "fresh", "at"] ["piles"] (defScope s_turned_by) := ⟨rfl, rfl, rfl, by decide +kernel, rfl, by decide +kernel, by decide +kernel⟩
def sp_turned_by : Sp := fun vs H Q _ => ∃ (a : Addr) (ns : List Int), vs = [.ref a] ∧ IL H a ns ∧ ns.length ≤ 1000 ∧ NL Q H (turn ns)
theorem ok_turned_by (T : Txt K mg) : Cal P w K mg base CX0 1 "turned_by" ["piles"] sp_turned_by := by
  refine cal_mk T.d_turned_by sc_turned_by ?_ (fun _ _ _ _ _ _ us hl => match us, hl with | [_], _ => rfl) (fun f cdv A outer s H vs Q E hr h => ?_)
  · intro vs H Q E h
    obtain ⟨a, ns, rfl, _⟩ := h
    rfl
  obtain ⟨a, ns, rfl, hS, hl, q⟩ := h
  refine ⟨_, (pss_cons (ps_setLc (i := 1) (own := [("pile", 2)]) (g := gName 2) rfl sc_turned_by.nd rfl rfl (sw_true rfl rfl rfl (by decide +kernel)) (pi_list (pv 0)) (blkOk_by (own := [("pile", 2)]) (N := ["piles", "rest", "pile", "fresh", "at"]) (sc := defScope s_turned_by) (by decide +kernel)) (fun _ _ _ _ _ => pg_name (i := 2) sc_turned_by.nd rfl (Or.inl rfl)) (fun _ _ _ _ _ => (pts_one (pt_cmpR op_gt (pv 2) pe_int (nomark _)))) (fun _ _ _ _ _ => (pe_op op_sub (pv 2) pe_int)))
      (pss_cons (ps_set (i := 3) sc_turned_by.nd rfl (Or.inl rfl) (pe_callB call_len_seq (by rfl) T.m_len PySem.boot_len (pa_cons (pv 0) pa_nil)))
      (pss_cons (ps_set (i := 4) sc_turned_by.nd rfl (Or.inl rfl) pe_int)
      (pss_cons (ps_while PassesOwn.never (PW.pt (pw_and (pt_cmpR op_lt (pv 4) (pe_callB call_len_seq (by rfl) T.m_len PySem.boot_len (pa_cons (pv 1) pa_nil)) (nomark _)) (pw_and1 (pt_cmpR op_gt (pe_ix ix_list (pv 1) (pv 4) (fun _ _ => rfl)) (pv 3) (nomark _)))))
      (pss_one (ps_set (i := 4) sc_turned_by.nd rfl (Or.inl rfl) (pe_op op_add (pv 4) pe_int))))
      (pss_cons (ps_expr (pe_bm PySem.F.plainAttrs_list PySem.F.slot_list_insert PySem.F.type_list_insert mt_insert (pv 1) (pa_cons (pv 4) (pa_cons (pv 3) pa_nil))))
      (pss_one (ps_ret (pv 1)))))))), ?_⟩
  refine ⟨_, rfl, a, rfl, ⟨_, sq hS⟩, fun D nD => lc_list (K := K) (a := a) (xs := ns.map V.int) (fun i H' => Same H H' ∧ IL H' D (down1 (ns.take i))) ⟨same_new nD _, upd_same⟩ (fun i H' _ h => sq (h.1 _ _ hS)) ?_ ?_⟩
  · intro i x H' hx h
    obtain ⟨z, hz, rfl⟩ := get_int hx
    obtain ⟨sm, eD⟩ := h
    refine ⟨rfl, .int z, rfl, _, _, rfl, rfl, _, rfl, ?_⟩
    have ed : down1 (ns.take (i + 1)) = down1 (ns.take i) ++ (if z > 1 then [z - 1] else []) := by
      rw [take_snoc hz]
      unfold down1
      rw [List.filter_append, List.map_append]
      congr 1
      by_cases c : z > 1
      · rw [if_pos c, List.filter_cons, if_pos (decide_eq_true c)] <;> rfl
      · rw [if_neg c, List.filter_cons, if_neg (by simp only [decide_eq_true_eq]; exact c)] <;> rfl
    rw [ed]
    refine ite2 (fun c => ?_) (fun c => ?_)
    · have c' : z > 1 := of_decide_eq_true c
      rw [if_pos c']
      refine ⟨.int z, rfl, _, _, rfl, rfl, _, eD, ?_, same_mut sm nD _, ?_⟩
      · rw [nlen]
        have := down1_length (ns.take i)
        rw [List.length_take] at this
        exact smallL (by omega)
      · show upd _ _ _ _ = _
        rw [upd_same, List.map_append] <;> rfl
    · have c' : ¬ z > 1 := fun h => c (decide_eq_true h)
      rw [if_neg c', List.append_nil]
      exact ⟨sm, eD⟩
  · intro H1 h
    obtain ⟨sm, eD⟩ := h
    rw [nlen, List.take_length] at eD
    have hdl := down1_length ns
    refine ⟨_, rfl, a, _, rfl, .inl (sq (sm _ _ hS)), ?_⟩
    rw [nlen]
    generalize hrs : down1 ns = rs at *
    refine ⟨fun m σ H' => ∃ j : Nat, σ = [some (.ref a), some (.ref D), none, some (.int ns.length), some (.int j)] ∧ H' = H1 ∧ m = rs.length - j ∧ j ≤ rs.length ∧ ∀ i y, i < j → rs[i]? = some y → y > (ns.length : Int),
      ⟨_, 0, rfl, rfl, rfl, Nat.zero_le _, fun i y h => by omega⟩, fun m σ H' hW => ?_⟩
    obtain ⟨j, rfl, rfl, rfl, hj, hall⟩ := hW
    have fin : (∀ y, rs[j]? = some y → ¬ y > (ns.length : Int)) → NL Q H (rs.take j ++ [(ns.length : Int)] ++ rs.drop j) := fun h2 => by
      have := insD_at hj hall h2
      unfold turn at q
      rw [hrs, this] at q
      exact q
    have out : (∀ y, rs[j]? = some y → ¬ y > (ns.length : Int)) → Q (.ref D) (upd H' D (.lst ((rs.map V.int).take (j : Int).toNat ++ [V.int ns.length] ++ (rs.map V.int).drop (j : Int).toNat))) := fun h2 => by
      refine fin h2 _ D (same_mut sm nD _) nD ?_
      show upd _ _ _ _ = _
      rw [upd_same, Int.toNat_natCast, List.map_append, List.map_append, List.map_take, List.map_drop] <;> rfl
    refine ⟨_, rfl, _, rfl, D, _, rfl, .inl (sq eD), _, _, rfl, rfl, _, rfl, ite2 (fun c => ?_) (fun c => ?_)⟩
    · have c' : (j : Int) < ((rs.map V.int).length : Int) := of_decide_eq_true c
      rw [nlen] at c'
      have hjl : j < rs.length := by omega
      have gj : rs[j]? = some rs[j] := List.getElem?_eq_getElem hjl
      refine ⟨_, rfl, _, rfl, D, _, _, .int rs[j], rfl, rfl, sq eD, at_of (j := j) rfl (int_get gj), _, rfl, _, _, rfl, rfl, _, rfl, ite2 (fun d => ?_) (fun d => ?_)⟩
      · have d' : (ns.length : Int) < rs[j] := of_decide_eq_true d
        refine ⟨fun σ' H2 => ∃ j' : Nat, j' = j + 1 ∧ σ' = [some (.ref a), some (.ref D), none, some (.int ns.length), some (.int j')] ∧ H2 = H', fun σ' H2 h => ?_, ?_⟩
        · obtain ⟨j', rfl, e1, e2⟩ := h
          refine ⟨rs.length - (j + 1), by omega, j + 1, e1, e2, rfl, by omega, fun i y hi hy => ?_⟩
          rcases Nat.lt_or_ge i j with l | l
          · exact hall i y l hy
          · obtain rfl : i = j := by omega
            rw [gj] at hy
            have := Option.some.inj hy
            omega
        · exact ⟨_, rfl, _, _, rfl, rfl, j + 1, rfl, rfl, rfl⟩
      · have d' : ¬ (ns.length : Int) < rs[j] := fun h => d (decide_eq_true h)
        refine ⟨_, rfl, Or.inl ⟨rfl, _, sq eD⟩, _, rfl, _, rfl, D, rs.map V.int, _, _, rfl, rfl, eD, by rw [nlen]; exact smallL (by omega), by omega, by omega, ?_⟩
        refine ⟨_, rfl, out fun y hy => ?_⟩
        rw [gj] at hy
        have := Option.some.inj hy
        omega
    · have c' : ¬ (j : Int) < ((rs.map V.int).length : Int) := fun h => c (decide_eq_true h)
      rw [nlen] at c'
      refine ⟨_, rfl, Or.inl ⟨rfl, _, sq eD⟩, _, rfl, _, rfl, D, rs.map V.int, _, _, rfl, rfl, eD, by rw [nlen]; exact smallL (by omega), by omega, by omega, ?_⟩
      refine ⟨_, rfl, out fun y hy => ?_⟩
      have := (List.getElem?_eq_some_iff.mp hy).1
      omega

end

section
variable {P : Program} {w : World} {K : PySem.W.Frag} {mg : Str → Option Value} {base : Heap}
theorem sc_turned : FnScope ["piles"] ["piles"] (defScope s_turned) := ⟨rfl, rfl, rfl, by decide +kernel, rfl, by decide +kernel, by decide +kernel⟩
def sp_turned : Sp := fun vs H Q _ => ∃ (a : Addr) (ns : List Int), vs = [.ref a] ∧ IL H a ns ∧ Good ns ∧ ns.sum ≤ 100 ∧ NL Q H (turn ns)
theorem ok_turned (T : Txt K mg) : Cal P w K mg base CX0 3 "turned" ["piles"] sp_turned := by
  have C_must_be := ok_must_be (P := P) (w := w) (base := base) T
  have C_turned_by := ok_turned_by (P := P) (w := w) (base := base) T
  refine cal_mk T.d_turned sc_turned ?_ (fun _ _ _ _ _ _ us hl => match us, hl with | [_], _ => rfl) (fun f cdv A outer s H vs Q E hr h => ?_)
  · intro vs H Q E h
    obtain ⟨a, ns, rfl, _⟩ := h
    rfl
  obtain ⟨a, ns, rfl, hS, hg, hs, q⟩ := h
  have hl := hg.le100 hs
  refine ⟨_, (pss_cons (ps_expr (pe_callF C_must_be (hr.mono (by decide)) (pa_cons (pv 0) pa_nil)))
      (pss_one (ps_ret (pe_callF C_turned_by (hr.mono (by decide)) (pa_cons (pv 0) pa_nil))))), ?_⟩
  exact ⟨_, rfl, a, ns, rfl, hS, hg, hs, _, rfl, a, ns, rfl, hS, by omega, q⟩

end

section
variable {P : Program} {w : World} {K : PySem.W.Frag} {mg : Str → Option Value} {base : Heap}
theorem sc_elder_by : FnScope ["piles", "at", "rest", "pile", "k"] ["piles", "at"] (defScope s_elder_by) := ⟨rfl, rfl, rfl, by decide +kernel, rfl, by decide +kernel, by decide +kernel⟩
def sp_elder_by : Sp := fun vs H Q _ => ∃ (a : Addr) (ns : List Int) (j : Nat) (p n : Int), vs = [.ref a, .int j] ∧ IL H a ns ∧ IsSet n ns ∧ n ≤ 100 ∧ ns[j]? = some p ∧ p ≥ (ns.length : Int) - 1 ∧ NL Q H (elderAt ns j p)
theorem ok_elder_by (T : Txt K mg) : Cal P w K mg base CX0 1 "elder_by" ["piles", "at"] sp_elder_by := by
  refine cal_mk T.d_elder_by sc_elder_by ?_ (fun _ _ _ _ _ _ us hl => match us, hl with | [_, _], _ => rfl) (fun f cdv A outer s H vs Q E hr h => ?_)
  · intro vs H Q E h
    obtain ⟨a, ns, j, p, n, rfl, _⟩ := h
    rfl
  obtain ⟨a, ns, j, p, n, rfl, hS, hset, hn, hp, hb, q⟩ := h
  have hlen := hset.len
  have hjl : j < ns.length := (List.getElem?_eq_some_iff.mp hp).1
  refine ⟨_, (pss_cons (ps_setLc (i := 2) (own := [("pile", 3)]) (g := gName 3) rfl sc_elder_by.nd rfl rfl (sw_true rfl rfl rfl (by decide +kernel)) (pi_list (pe_op op_cat (pe_slice sl_list (pv 0) po_none (po_some (pv 1))) (pe_slice sl_list (pv 0) (po_some (pe_op op_add (pv 1) pe_int)) po_none))) (blkOk_by (own := [("pile", 3)]) (N := ["piles", "at", "rest", "pile", "k"]) (sc := defScope s_elder_by) (by decide +kernel)) (fun _ _ _ _ _ => pg_name (i := 3) sc_elder_by.nd rfl (Or.inl rfl)) (fun _ _ _ _ _ => pts_nil) (fun _ _ _ _ _ => (pe_op op_add (pv 3) pe_int)))
      (pss_one (ps_ret (pe_op op_cat (pv 2) (pe_lc (own := [("k", 4)]) (g := gName 4) rfl sc_elder_by.nd (pi_range1 (by rfl) T.m_range (pa_cons (pe_op op_sub (pe_ix ix_list (pv 0) (pv 1) (fun _ _ => rfl)) (pe_callB call_len_seq (by rfl) T.m_len PySem.boot_len (pa_cons (pv 2) pa_nil))) pa_nil)) (blkOk_by (own := [("k", 4)]) (N := ["piles", "at", "rest", "pile", "k"]) (sc := defScope s_elder_by) (by decide +kernel)) (fun _ _ _ _ _ => pg_name (i := 4) sc_elder_by.nd rfl (Or.inl rfl)) (fun _ _ _ _ _ => pts_nil) (fun _ _ _ _ _ => pe_int)))))), ?_⟩
  have hA1 : SqL K H a (ns.map V.int) := sq hS
  refine ⟨_, rfl, _, rfl, _, rfl, a, _, rfl, hA1, fun p1 n1 => ?_⟩
  rw [cut_to _ (by rw [nlen]; omega)]
  have sm1 := same_new n1 (.lst ((ns.map V.int).take j))
  refine ⟨_, rfl, _, rfl, _, _, rfl, rfl, (j : Int) + 1, rfl, a, _, rfl, sm1.seq hA1, fun p2 n2 => ?_⟩
  rw [show (j : Int) + 1 = ((j + 1 : Nat) : Int) by omega, cut_from _ (by rw [nlen]; omega)]
  have sm2 := same_new n2 (.lst ((ns.map V.int).drop (j + 1)))
  obtain ⟨s1, s2⟩ := take_drop_sum hp
  refine ⟨p1, p2, _, _, rfl, rfl, sm2 _ _ upd_same, upd_same, by rw [List.length_take, List.length_drop, nlen]; exact small (by omega), fun p3 n3 => ?_⟩
  have sm3 := same_new n3 (.lst ((ns.map V.int).take j ++ (ns.map V.int).drop (j + 1)))
  have e3 : IL (upd (upd (upd H p1 (.lst ((ns.map V.int).take j))) p2 (.lst ((ns.map V.int).drop (j + 1)))) p3 (.lst ((ns.map V.int).take j ++ (ns.map V.int).drop (j + 1)))) p3 (ns.take j ++ ns.drop (j + 1)) := by
    show upd _ _ _ _ = _
    rw [upd_same, List.map_append, List.map_take, List.map_drop]
  have smA := (sm1.trans sm2).trans sm3
  generalize (upd (upd (upd H p1 (.lst ((ns.map V.int).take j))) p2 (.lst ((ns.map V.int).drop (j + 1)))) p3 (.lst ((ns.map V.int).take j ++ (ns.map V.int).drop (j + 1)))) = H2 at *
  generalize hrs : ns.take j ++ ns.drop (j + 1) = rs at *
  refine ⟨p3, rfl, ⟨_, sq e3⟩, fun G nG => lc_list (K := K) (a := p3) (xs := rs.map V.int) (fun i H' => Same H2 H' ∧ IL H' G ((rs.take i).map (· + 1))) ⟨same_new nG _, upd_same⟩ (fun i H' _ h => sq (h.1 _ _ e3)) ?_ ?_⟩
  · intro i x H' hx h
    obtain ⟨y, hy, rfl⟩ := get_int hx
    obtain ⟨sm4, eG⟩ := h
    have hil : i < rs.length := (List.getElem?_eq_some_iff.mp hy).1
    refine ⟨rfl, _, rfl, _, _, rfl, rfl, _, eG, ?_, same_mut sm4 nG _, ?_⟩
    · rw [nlen, List.length_map, List.length_take]
      exact smallL (by omega)
    · show upd _ _ _ _ = _
      rw [upd_same, take_snoc hy, List.map_append, List.map_append] <;> rfl
  · intro H3 h
    obtain ⟨sm4, eG⟩ := h
    rw [nlen, List.take_length] at eG
    have smB := smA.trans sm4
    have hA3 : SqL K H3 a (ns.map V.int) := sq (smB _ _ hS)
    have hpn : 1 ≤ p := hset.1.pos p (List.mem_of_getElem? hp)
    have hpn2 := hset.le (List.mem_of_getElem? hp)
    have hcnt : ((rs.map (· + 1)).map V.int).length = rs.length := by rw [nlen, List.length_map]
    refine ⟨_, rfl, _, rfl, _, rfl, a, _, _, .int p, rfl, rfl, hA3, at_of (j := j) rfl (int_get hp), _, rfl, G, _, rfl, .inl (sq eG), _, _, rfl, rfl, _, rfl, ?_⟩
    rw [hcnt]
    refine ⟨by omega, by omega, fun N nN => lc_range (lo := 0) (n := (p - (rs.length : Int)).toNat) (fun i H' => Same H3 H' ∧ IL H' N (List.replicate i 1)) ⟨same_new nN _, upd_same⟩ ?_ ?_⟩
    · intro i H' hi h
      obtain ⟨sm5, eN⟩ := h
      refine ⟨rfl, _, eN, by rw [nlen, List.length_replicate]; exact smallL (by omega), same_mut sm5 nN _, ?_⟩
      show upd _ _ _ _ = _
      rw [upd_same, List.replicate_succ', List.map_append] <;> rfl
    · intro H4 h
      obtain ⟨sm5, eN⟩ := h
      refine ⟨G, N, _, _, rfl, rfl, sm5 _ _ eG, eN, by rw [nlen, nlen, List.length_map, List.length_replicate]; exact small (by omega), fun r nr => ?_⟩
      refine q _ r ((smB.trans sm5).trans (same_new nr _)) ((smB.trans sm5).free nr) ?_
      show upd _ _ _ _ = _
      rw [upd_same, ← List.map_append]
      unfold elderAt
      rw [hrs, show (rs.length : Int) = (ns.length : Int) - 1 by omega]

end

section
variable {P : Program} {w : World} {K : PySem.W.Frag} {mg : Str → Option Value} {base : Heap}
theorem sc_elders_of : FnScope ["piles", "found", "at", "fresh"] ["piles"] (defScope s_elders_of) := ⟨rfl, rfl, rfl, by decide +kernel, rfl, by decide +kernel, by decide +kernel⟩
def sp_elders_of : Sp := fun vs H Q _ => ∃ (a : Addr) (ns : List Int) (n : Int), vs = [.ref a] ∧ IL H a ns ∧ IsSet n ns ∧ n ≤ 100 ∧ ∀ ms : List (List Int), ms.Perm (eldersU ns) → Rise ms → NLL Q H ms
theorem ok_elders_of (T : Txt K mg) : Cal P w K mg base CX0 3 "elders_of" ["piles"] sp_elders_of := by
  have C_elder_by := ok_elder_by (P := P) (w := w) (base := base) T
  have C_must_be := ok_must_be (P := P) (w := w) (base := base) T
  refine cal_mk T.d_elders_of sc_elders_of ?_ (fun _ _ _ _ _ _ us hl => match us, hl with | [_], _ => rfl) (fun f cdv A outer s H vs Q E hr h => ?_)
  · intro vs H Q E h
    obtain ⟨a, ns, n, rfl, _⟩ := h
    rfl
  obtain ⟨a, ns, n, rfl, hS, hset, hn, q⟩ := h
  have hlen := hset.len
  refine ⟨_, (pss_cons (ps_expr (pe_callF C_must_be (hr.mono (by decide)) (pa_cons (pv 0) pa_nil)))
      (pss_cons (ps_set (i := 1) sc_elders_of.nd rfl (Or.inl rfl) (pe_lst pa_nil))
      (pss_cons (ps_for PassesOwn.never rfl (pi_range1 (by rfl) T.m_range (pa_cons (pe_callB call_len_seq (by rfl) T.m_len PySem.boot_len (pa_cons (pv 0) pa_nil)) pa_nil)) (pg_name (i := 2) sc_elders_of.nd rfl (Or.inl rfl))
      (pss_cons (ps_set (i := 3) sc_elders_of.nd rfl (Or.inl rfl) (pe_ix ix_list (pv 0) (pv 2) (fun _ _ => rfl)))
      (pss_one (ps_if (PW.pt (pw_and (pt_cmpR op_ge (pv 3) (pe_op op_sub (pe_callB call_len_seq (by rfl) T.m_len PySem.boot_len (pa_cons (pv 0) pa_nil)) pe_int) (nomark _)) (pw_and1 (PW.pt (pw_or (pt_cmpR op_eq (pv 2) pe_int (nomark _)) (pw_or1 (pt_cmpR op_ne (pe_ix ix_list (pv 0) (pe_op op_sub (pv 2) pe_int) (fun _ _ => rfl)) (pv 3) (nomark _))))))))
      (pss_one (ps_expr (pe_bm PySem.F.plainAttrs_list PySem.F.slot_list_append PySem.F.type_list_append mt_append (pv 1) (pa_cons (pe_callF C_elder_by (hr.mono (by decide)) (pa_cons (pv 0) (pa_cons (pv 2) pa_nil))) pa_nil)))) pss_nil))))
      (pss_one (ps_ret (pe_callB (cr_sortedL (hu65 hr)) (by rfl) T.m_sorted (by decide +kernel) (pa_cons (pv 1) pa_nil))))))), ?_⟩
  refine ⟨_, rfl, a, ns, rfl, hS, hset.1, by rw [hset.2]; exact hn, Nat.zero_le _, fun D nD => ?_⟩
  have s0 := same_new nD (.lst ([] : List V))
  refine ⟨_, rfl, a, _, rfl, .inl (sq (s0 _ _ hS)), _, rfl, by rw [nlen]; omega, by rw [nlen]; omega, for_range (lo := 0) (n := ((ns.map V.int).length : Int).toNat) (fun i σ H' => ∃ (as : List Addr) (y1 y2 : Option V), σ = [some (.ref a), some (.ref D), y1, y2] ∧ Same H H' ∧ LL H' D as (eldersTo ns i) ∧ ∀ x ∈ as, H x = none ∧ x ≠ D)
    ⟨[], none, none, rfl, s0, ⟨upd_same, trivial⟩, fun x hx => by cases hx⟩ ?_ ?_⟩
  · intro i σ H' hi h
    obtain ⟨as, y1, y2, rfl, sm, ⟨eD, hLL⟩, has⟩ := h
    rw [nlen] at hi
    have hi : i < ns.length := by omega
    have gi : ns[i]? = some ns[i] := List.getElem?_eq_getElem hi
    have ai : atI (ns.map V.int) (0 + (i : Int)) = some (.int ns[i]) := at_of (j := i) (by omega) (int_get gi)
    have hA := sm _ _ hS
    have hal := hLL.len
    have hel := eldersTo_len ns i
    have hset' := getD_of gi
    have skip : elderOk ns i = false → eldersTo ns (i + 1) = eldersTo ns i := fun e => by
      show (if elderOk ns i = true then _ else _) = _
      rw [if_neg (by rw [e]; decide)]
    -- the taken branch
    have take : elderOk ns i = true → eldersTo ns (i + 1) = eldersTo ns i ++ [elderAt ns i ns[i]] := fun e => by
      show (if elderOk ns i = true then _ else _) = _
      rw [if_pos e, hset']
    refine ⟨_, rfl, _, rfl, a, _, _, .int ns[i], rfl, rfl, sq hA, ai, ?_⟩
    refine ⟨_, rfl, _, rfl, a, _, rfl, .inl (sq hA), _, _, rfl, rfl, _, _, rfl, rfl, _, rfl, ite2 (fun c => ?_) (fun c => ?_)⟩
    · have c' : ((ns.map V.int).length : Int) - 1 ≤ ns[i] := of_decide_eq_true c
      rw [nlen] at c'
      refine ⟨_, rfl, rfl, _, rfl, ite2 (fun d => ?w1) (fun d => ?w2)⟩
      case' w1 =>
        have d' : (0 : Int) + (i : Int) = 0 := V.int.inj (of_decide_eq_true d)
        have hok : elderOk ns i = true := by
          unfold elderOk
          rw [hset', decide_eq_true c', show (i == 0) = true from beq_iff_eq.mpr (by omega)] <;> rfl
        refine ⟨_, rfl, .inl ⟨rfl, _, sq eD⟩, _, rfl, _, rfl, a, ns, i, ns[i], n, congrArg (fun z => [V.ref a, V.int z]) (Int.zero_add _), hA, hset, hn, gi, c', fun H2 e sm2 ne ee => ?_⟩
      case' w2 =>
        have d' : ¬ i = 0 := fun e => d (decide_eq_true (congrArg V.int (by omega)))
        have gp : ns[i - 1]? = some (ns[i - 1]'(by omega)) := List.getElem?_eq_getElem (by omega)
        refine ⟨_, rfl, _, rfl, _, _, rfl, rfl, a, _, _, .int (ns[i - 1]'(by omega)), rfl, rfl, sq hA, at_of (j := i - 1) (by omega) (int_get gp), _, rfl, rfl, _, rfl, ite2 (fun e => ?_) (fun e => ?w3)⟩
        rotate_left
        case w3 =>
          have e' : ns[i - 1]'(by omega) = ns[i] := by
            by_cases e2 : V.int (ns[i - 1]'(by omega)) = V.int ns[i]
            · exact V.int.inj e2
            · exact absurd (by rw [decide_eq_false e2] <;> rfl) e
          have hno : elderOk ns i = false := by
            unfold elderOk
            rw [hset', getD_of gp, show (i == 0) = false from beq_eq_false_iff_ne.mpr d', show (ns[i - 1]'(by omega) != ns[i]) = false from by rw [e']; simp] <;> simp
          exact ⟨as, _, _, rfl, sm, ⟨eD, by rw [skip hno]; exact hLL⟩, has⟩
        have e' : ¬ ns[i - 1]'(by omega) = ns[i] := fun e2 => by
          rw [decide_eq_true (congrArg V.int e2)] at e
          cases e
        have hok : elderOk ns i = true := by
          unfold elderOk
          rw [hset', getD_of gp, decide_eq_true c', show (i == 0) = false from beq_eq_false_iff_ne.mpr d', show (ns[i - 1]'(by omega) != ns[i]) = true from bne_iff_ne.mpr e'] <;> rfl
        refine ⟨_, rfl, .inl ⟨rfl, _, sq eD⟩, _, rfl, _, rfl, a, ns, i, ns[i], n, congrArg (fun z => [V.ref a, V.int z]) (Int.zero_add _), hA, hset, hn, gi, c', fun H2 e sm2 ne ee => ?_⟩
      all_goals
        have eD2 := sm2 _ _ eD
        have neD : e ≠ D := (ne_of_none eD ne).symm
        refine ⟨D, _, _, rfl, rfl, eD2, by rw [rlen]; exact smallL (by omega), ?_⟩
        refine ⟨as ++ [e], _, _, rfl, same_mut (sm.trans sm2) nD _, ⟨by rw [upd_same, List.map_append] <;> rfl, ?_⟩, fun x hx => ?_⟩
        · rw [take hok]
          refine LLs.upd (fun x hx => ?_) ((hLL.same sm2).app ⟨ee, trivial⟩)
          rcases List.mem_append.mp hx with hx | hx
          · exact (has x hx).2
          · rw [List.mem_singleton.mp hx]
            exact neD
        · rcases List.mem_append.mp hx with hx | hx
          · exact has x hx
          · rw [List.mem_singleton.mp hx]
            exact ⟨sm.free ne, neD⟩
    · have c' : ¬ ((ns.map V.int).length : Int) - 1 ≤ ns[i] := fun h => c (decide_eq_true h)
      rw [nlen] at c'
      have hno : elderOk ns i = false := by
        unfold elderOk
        rw [hset', decide_eq_false c'] <;> rfl
      exact ⟨as, _, _, rfl, sm, ⟨eD, by rw [skip hno]; exact hLL⟩, has⟩
  · intro σ H' h
    obtain ⟨as, y1, y2, rfl, sm, hLL, has⟩ := h
    rw [nlen, Int.toNat_natCast] at hLL
    refine ⟨_, rfl, D, as, _, rfl, hLL, fun p as' ms hp hr hin hL np => q ms hp hr _ p as' (sm.trans (same_new np _)) (sm.free np) (fun x hx => (has x (hin x hx)).1) ⟨upd_same, hL.same (same_new np _)⟩⟩

end

section
variable {P : Program} {w : World} {K : PySem.W.Frag} {mg : Str → Option Value} {base : Heap}
theorem sc_law_cell : FnScope ["script", "k", "base"] ["script", "k"] (defScope s_law_cell) := ⟨rfl, rfl, rfl, by decide +kernel, rfl, by decide +kernel, by decide +kernel⟩
/-- any number may stand in a cell -/
def sp_law_cell (K : PySem.W.Frag) : Sp := fun vs H Q _ => ∃ (a : Addr) (ns : List Int) (k : Int), vs = [.ref a, .int k] ∧ SL K H a ns ∧ 0 ≤ k ∧ ∀ z, Q (.int z) H
theorem ok_law_cell (T : Txt K mg) : Cal P w K mg base CX0 1 "_law_cell" ["script", "k"] (sp_law_cell K) := by
  refine cal_mk T.d_law_cell sc_law_cell ?_ (fun _ _ _ _ _ _ us hl => match us, hl with | [_, _], _ => rfl) (fun f cdv A outer s H vs Q E hr h => ?_)
  · intro vs H Q E h
    obtain ⟨a, ns, k, rfl, _⟩ := h
    rfl
  obtain ⟨a, ns, k, rfl, hS, h0, q⟩ := h
  refine ⟨_, (pss_cons (ps_if (pt_cmpR op_lt (pv 1) (pe_callB call_len_seq (by rfl) T.m_len PySem.boot_len (pa_cons (pv 0) pa_nil)) (nomark _))
      (pss_one (ps_ret (pe_ix ix_list (pv 0) (pv 1) (fun _ _ => rfl)))) pss_nil)
      (pss_cons (ps_set (i := 2) sc_law_cell.nd rfl (Or.inl rfl) pe_int)
      (pss_cons (ps_if (pt_cmpR op_gt (pe_callB call_len_seq (by rfl) T.m_len PySem.boot_len (pa_cons (pv 0) pa_nil)) pe_int (nomark _))
      (pss_one (ps_set (i := 2) sc_law_cell.nd rfl (Or.inl rfl) (pe_ix ix_list (pv 0) pe_int (fun _ _ => rfl)))) pss_nil)
      (pss_one (ps_ret (pe_op op_mod (pe_op op_add (pe_op op_mul (pe_op op_mod (pv 2) pe_int) pe_int) (pe_op op_mul (pv 1) pe_int)) pe_int)))))), ?_⟩
  refine ⟨_, rfl, _, rfl, a, _, rfl, .inl hS, _, _, rfl, rfl, _, rfl, ite2 (fun c => ?_) (fun c => ?_)⟩
  · have c' : k < ((ns.map V.int).length : Int) := of_decide_eq_true c
    rw [List.length_map] at c'
    obtain ⟨j, rfl⟩ : ∃ j : Nat, k = j := ⟨k.toNat, by omega⟩
    have hj : j < ns.length := by omega
    exact ⟨_, rfl, _, rfl, a, _, _, .int ns[j], rfl, rfl, hS, atI_nat (int_get (List.getElem?_eq_getElem hj)), q _⟩
  · refine ⟨_, rfl, a, _, rfl, .inl hS, _, _, rfl, rfl, _, rfl, ite2 (fun c => ?_) (fun c => ?_)⟩
    · have c' : (0 : Int) < ((ns.map V.int).length : Int) := of_decide_eq_true c
      rw [List.length_map] at c'
      have hj : 0 < ns.length := by omega
      refine ⟨_, rfl, a, _, 0, .int ns[0], rfl, rfl, hS, atI_nat (j := 0) (int_get (List.getElem?_eq_getElem hj)), ?_⟩
      exact ⟨_, rfl, _, _, rfl, rfl, (by show (0 : Int) < 65521; decide), _, _, rfl, rfl, .inr ⟨by decide, by decide⟩, _, rfl, _, _, rfl, rfl, .inr ⟨by decide, by decide⟩, _, _, rfl, rfl, _, _, rfl, rfl, (by show (0 : Int) < 65521; decide), q _⟩
    · exact ⟨_, rfl, _, _, rfl, rfl, (by show (0 : Int) < 65521; decide), _, _, rfl, rfl, .inr ⟨by decide, by decide⟩, _, rfl, _, _, rfl, rfl, .inr ⟨by decide, by decide⟩, _, _, rfl, rfl, _, _, rfl, rfl, (by show (0 : Int) < 65521; decide), q _⟩

end

section
variable {P : Program} {w : World} {K : PySem.W.Frag} {mg : Str → Option Value} {base : Heap}
theorem sc_law_whole : FnScope ["found"] ["found"] (defScope s_law_whole) := ⟨rfl, rfl, rfl, by decide +kernel, rfl, by decide +kernel, by decide +kernel⟩
def sp_law_whole : Sp := fun vs H Q _ => ∃ z : Int, vs = [.int z] ∧ Q (.bl true) H
theorem ok_law_whole (T : Txt K mg) : Cal P w K mg base CX0 1 "_law_whole" ["found"] sp_law_whole := by
  refine cal_mk T.d_law_whole sc_law_whole ?_ (fun _ _ _ _ _ _ us hl => match us, hl with | [_], _ => rfl) (fun f cdv A outer s H vs Q E hr h => ?_)
  · intro vs H Q E h
    obtain ⟨z, rfl, _⟩ := h
    rfl
  obtain ⟨z, rfl, q⟩ := h
  refine ⟨_, (pss_one (ps_ret (pe_and (pe_callB call_isi (by rfl) T.m_isinstance (by decide +kernel) (pa_cons (pv 0) (pa_cons (pe_bltn (v := .ty "int") (by rfl) T.m_int (by decide +kernel) rfl) pa_nil))) (pe_one (pe_not (pe_callB call_isi (by rfl) T.m_isinstance (by decide +kernel) (pa_cons (pv 0) (pa_cons (pe_bltn (v := .ty "bool") (by rfl) T.m_bool (by decide +kernel) rfl) pa_nil)))))))), ?_⟩
  refine ⟨_, rfl, .int z, .ty "int", .type "int", .type "int", true, rfl, ClsV.ty _, .base (.int _), kit_ty (by decide +kernel), true, rfl, ?_⟩
  exact ⟨_, rfl, .int z, .ty "bool", .type "int", .type "bool", false, rfl, ClsV.ty _, .base (.int _), kit_ty (by decide +kernel), false, rfl, q⟩

end

section
variable {P : Program} {w : World} {K : PySem.W.Frag} {mg : Str → Option Value} {base : Heap}
theorem sc_law_next : FnScope ["step"] ["step"] (defScope s_law_next) := ⟨rfl, rfl, rfl, by decide +kernel, rfl, by decide +kernel, by decide +kernel⟩
def sp_law_next : Sp := fun vs H Q _ => ∃ n : Int, vs = [.int n] ∧ ∀ z, Q (.int z) H
theorem ok_law_next (T : Txt K mg) : Cal P w K mg base CX0 1 "_law_next" ["step"] sp_law_next := by
  refine cal_mk T.d_law_next sc_law_next ?_ (fun _ _ _ _ _ _ us hl => match us, hl with | [_], _ => rfl) (fun f cdv A outer s H vs Q E hr h => ?_)
  · intro vs H Q E h
    obtain ⟨n, rfl, _⟩ := h
    rfl
  obtain ⟨n, rfl, q⟩ := h
  refine ⟨_, (pss_one (ps_ret (pe_op op_mod (pe_op op_add (pe_op op_mul (pv 0) pe_int) pe_int) pe_int))), ?_⟩
  exact ⟨_, rfl, _, _, rfl, rfl, .inr ⟨by decide, by decide⟩, _, _, rfl, rfl, _, _, rfl, rfl, (by show (0 : Int) < 2147483647; decide), q _⟩

end

section
variable {P : Program} {w : World} {K : PySem.W.Frag} {mg : Str → Option Value} {base : Heap}
theorem sc_law_fallen : FnScope ["piles"] ["piles"] (defScope s_law_fallen) := ⟨rfl, rfl, rfl, by decide +kernel, rfl, by decide +kernel, by decide +kernel⟩
def sp_law_fallen : Sp := fun vs H Q _ => ∃ (a : Addr) (ns : List Int), vs = [.ref a] ∧ IL H a ns ∧ NL Q H (fall ns)
theorem ok_law_fallen (T : Txt K mg) : Cal P w K mg base CX0 1 "_law_fallen" ["piles"] sp_law_fallen := by
  refine cal_mk T.d_law_fallen sc_law_fallen ?_ (fun _ _ _ _ _ _ us hl => match us, hl with | [_], _ => rfl) (fun f cdv A outer s H vs Q E hr h => ?_)
  · intro vs H Q E h
    obtain ⟨a, ns, rfl, _⟩ := h
    rfl
  obtain ⟨a, ns, rfl, hS, q⟩ := h
  refine ⟨_, (pss_one (ps_ret (pe_listRev rfl (by rfl) T.m_list (by rfl) T.m_reversed (pe_callB cr_sortedI (by rfl) T.m_sorted (by decide +kernel) (pa_cons (pv 0) pa_nil))))), ?_⟩
  refine ⟨_, rfl, a, ns, rfl, sq hS, fun ns' p hp hs np => ?_⟩
  refine ⟨p, _, rfl, .inl (.inl upd_same), fun r nr => ?_⟩
  have s1 := same_new np (.lst (ns'.map V.int))
  refine q _ r (s1.trans (same_new nr _)) (s1.free nr) ?_
  show upd _ _ _ _ = _
  rw [upd_same, ← List.map_reverse]
  have e : ns'.reverse = fall ns := fall_eq ((List.reverse_perm ns').trans hp) (List.pairwise_reverse.mpr (hs.imp fun h => h))
  rw [e]

end

section
variable {P : Program} {w : World} {K : PySem.W.Frag} {mg : Str → Option Value} {base : Heap}
theorem sc_law_turned : FnScope ["piles", "pile"] ["piles"] (defScope s_law_turned) := ⟨rfl, rfl, rfl, by decide +kernel, rfl, by decide +kernel, by decide +kernel⟩
def sp_law_turned : Sp := fun vs H Q _ => ∃ (a : Addr) (ns : List Int), vs = [.ref a] ∧ IL H a ns ∧ ns.length ≤ 1000 ∧ NL Q H (fall (down1 ns ++ [(ns.length : Int)]))
theorem ok_law_turned (T : Txt K mg) : Cal P w K mg base CX0 2 "_law_turned" ["piles"] sp_law_turned := by
  have C_law_fallen := ok_law_fallen (P := P) (w := w) (base := base) T
  refine cal_mk T.d_law_turned sc_law_turned ?_ (fun _ _ _ _ _ _ us hl => match us, hl with | [_], _ => rfl) (fun f cdv A outer s H vs Q E hr h => ?_)
  · intro vs H Q E h
    obtain ⟨a, ns, rfl, _⟩ := h
    rfl
  obtain ⟨a, ns, rfl, hS, hl, q⟩ := h
  refine ⟨_, (pss_one (ps_ret (pe_callF C_law_fallen (hr.mono (by decide)) (pa_cons (pe_op op_cat (pe_lc (own := [("pile", 1)]) (g := gName 1) rfl sc_law_turned.nd (pi_list (pv 0)) (blkOk_by (own := [("pile", 1)]) (N := ["piles", "pile"]) (sc := defScope s_law_turned) (by decide +kernel)) (fun _ _ _ _ _ => pg_name (i := 1) sc_law_turned.nd rfl (Or.inl rfl)) (fun _ _ _ _ _ => (pts_one (pt_cmpR op_gt (pv 1) pe_int (nomark _)))) (fun _ _ _ _ _ => (pe_op op_sub (pv 1) pe_int))) (pe_lst (pa_cons (pe_callB call_len_seq (by rfl) T.m_len PySem.boot_len (pa_cons (pv 0) pa_nil)) pa_nil))) pa_nil)))), ?_⟩
  -- the comprehension
  refine ⟨_, rfl, a, rfl, ⟨_, sq hS⟩, fun D nD => lc_list (K := K) (a := a) (xs := ns.map V.int) (fun i H' => Same H H' ∧ H' D = some (.lst ((down1 (ns.take i)).map V.int))) ?_ ?_ ?_ ?_⟩
  · exact ⟨same_new nD _, upd_same⟩
  · exact fun i H' _ h => sq (h.1 _ _ hS)
  · intro i x H' hx h
    obtain ⟨z, hz, rfl⟩ := get_int hx
    obtain ⟨sm, eD⟩ := h
    refine ⟨rfl, .int z, rfl, _, _, rfl, rfl, _, rfl, ?_⟩
    have et : ns.take (i + 1) = ns.take i ++ [z] := by
      rw [List.take_add_one, hz] <;> rfl
    refine ite2 (fun c => ?_) (fun c => ?_)
    · have c' : z > 1 := of_decide_eq_true c
      refine ⟨.int z, rfl, _, _, rfl, rfl, _, eD, ?_, ?_, ?_⟩
      · rw [List.length_map]
        have := down1_length (ns.take i)
        rw [List.length_take] at this
        exact smallL (by omega)
      · exact same_mut sm nD _
      · rw [upd_same, et]
        have : down1 (ns.take i ++ [z]) = down1 (ns.take i) ++ [z - 1] := by
          unfold down1
          rw [List.filter_append, List.map_append]
          congr 1
          rw [List.filter_cons, if_pos (decide_eq_true c')] <;> rfl
        rw [this, List.map_append] <;> rfl
    · have c' : ¬ z > 1 := fun h => c (decide_eq_true h)
      refine ⟨sm, ?_⟩
      rw [et]
      have : down1 (ns.take i ++ [z]) = down1 (ns.take i) := by
        unfold down1
        rw [List.filter_append, List.map_append, List.filter_cons, if_neg (by simp only [decide_eq_true_eq]; exact c')]
        simp
      rw [this]
      exact eD
  · intro H1 h
    obtain ⟨sm, eD⟩ := h
    rw [List.length_map, List.take_length] at eD
    refine ⟨_, rfl, a, _, rfl, .inl (sq (sm _ _ hS)), (by show 1 ≤ sizeLine; decide), fun c nc => ?_⟩
    have nDc : D ≠ c := ne_of_none eD nc
    refine ⟨D, c, _, _, rfl, rfl, by rw [upd_ne nDc]; exact eD, upd_same, ?_, fun e ne => ?_⟩
    · rw [List.length_map]
      have := down1_length ns
      exact small (by show (down1 ns).length + 1 ≤ _; omega)
    · have s2 : Same H (upd (upd H1 c (.lst [.int ((ns.map V.int).length : Int)])) e (.lst ((down1 ns).map V.int ++ [.int ((ns.map V.int).length : Int)]))) := (sm.trans (same_new nc _)).trans (same_new ne _)
      refine ⟨e, down1 ns ++ [(ns.length : Int)], rfl, ?_, fun H' p s3 np ep => q H' p (s2.trans s3) (s2.free np) ep⟩
      show _ = _
      rw [upd_same, List.map_append, List.length_map] <;> rfl

end

section
variable {P : Program} {w : World} {K : PySem.W.Frag} {mg : Str → Option Value} {base : Heap}
theorem sc_law_stair : FnScope ["coins", "stair"] ["coins"] (defScope s_law_stair) := ⟨rfl, rfl, rfl, by decide +kernel, rfl, by decide +kernel, by decide +kernel⟩
def sp_law_stair : Sp := fun vs H Q _ => ∃ n : Nat, vs = [.int n] ∧ 1 ≤ n ∧ n ≤ 100000 ∧ Q (.int (stair n)) H
theorem ok_law_stair (T : Txt K mg) : Cal P w K mg base CX0 1 "_law_stair" ["coins"] sp_law_stair := by
  refine cal_mk T.d_law_stair sc_law_stair ?_ (fun _ _ _ _ _ _ us hl => match us, hl with | [_], _ => rfl) (fun f cdv A outer s H vs Q E hr h => ?_)
  · intro vs H Q E h
    obtain ⟨n, rfl, _⟩ := h
    rfl
  obtain ⟨n, rfl, h1, h2, q⟩ := h
  refine ⟨_, (pss_cons (ps_set (i := 1) sc_law_stair.nd rfl (Or.inl rfl) pe_int)
      (pss_cons (ps_while PassesOwn.never (pt_cmpR op_lt (pe_op op_mul (pv 1) (pe_op op_add (pv 1) pe_int)) (pe_op op_mul pe_int (pv 0)) (nomark _))
      (pss_one (ps_set (i := 1) sc_law_stair.nd rfl (Or.inl rfl) (pe_op op_add (pv 1) pe_int))))
      (pss_one (ps_ret (pv 1))))), ?_⟩
  refine ⟨fun m σ H' => ∃ s : Nat, σ = [some (.int n), some (.int s)] ∧ H' = H ∧ m = 2 * n + 2 - s ∧ 1 ≤ s ∧ (s - 1) * s < 2 * n, ⟨_, 1, rfl, rfl, rfl, Nat.le_refl _, by omega⟩, fun m σ H' hW => ?_⟩
  obtain ⟨s, rfl, rfl, rfl, g1, g2⟩ := hW
  have g3 : s ≤ 2 * n + 1 := by
    have := Nat.mul_le_mul_left (s - 1) g1
    omega
  refine ⟨_, rfl, _, rfl, _, _, rfl, rfl, _, _, rfl, rfl, .inl ⟨by omega, by omega⟩, _, rfl, _, _, rfl, rfl, .inl ⟨by decide, by decide⟩, _, _, rfl, rfl, _, rfl, ite2 (fun c => ?_) (fun c => ?_)⟩
  · have c' : (s : Int) * ((s : Int) + 1) < 2 * (n : Int) := of_decide_eq_true c
    have c2 : s * (s + 1) < 2 * n := by exact_mod_cast c'
    refine ⟨fun σ' H2 => ∃ s' : Nat, s' = s + 1 ∧ σ' = [some (.int n), some (.int s')] ∧ H2 = H', fun σ' H2 h => ?_, ?_⟩
    · obtain ⟨s', rfl, e1, e2⟩ := h
      exact ⟨2 * n + 2 - (s + 1), by omega, s + 1, e1, e2, rfl, by omega, by rw [Nat.add_sub_cancel]; exact c2⟩
    · exact ⟨_, rfl, _, _, rfl, rfl, s + 1, rfl, rfl, rfl⟩
  · have c' : ¬ (s : Int) * ((s : Int) + 1) < 2 * (n : Int) := fun h => c (decide_eq_true h)
    have c2 : 2 * n ≤ s * (s + 1) := by
      have : ¬ s * (s + 1) < 2 * n := fun h => c' (by exact_mod_cast h)
      omega
    rw [← stair_uniq h1 g1 g2 c2] at q
    exact ⟨_, rfl, q⟩

end

section
variable {P : Program} {w : World} {K : PySem.W.Frag} {mg : Str → Option Value} {base : Heap}
theorem sc_law_by_marks : FnScope ["marks", "piles", "k", "pile"] ["marks"] (defScope s_law_by_marks) := ⟨rfl, rfl, rfl, by decide +kernel, rfl, by decide +kernel, by decide +kernel⟩
def sp_law_by_marks : Sp := fun vs H Q _ => ∃ (a : Addr) (ms : List Int), vs = [.ref a] ∧ IL H a ms ∧ ms.length ≤ 1000 ∧ NL Q H (ofMarks ms)
theorem ok_law_by_marks (T : Txt K mg) : Cal P w K mg base CX0 1 "_law_by_marks" ["marks"] sp_law_by_marks := by
  refine cal_mk T.d_law_by_marks sc_law_by_marks ?_ (fun _ _ _ _ _ _ us hl => match us, hl with | [_], _ => rfl) (fun f cdv A outer s H vs Q E hr h => ?_)
  · intro vs H Q E h
    obtain ⟨a, ms, rfl, _⟩ := h
    rfl
  obtain ⟨a, ms, rfl, hS, hl, q⟩ := h
  refine ⟨_, (pss_cons (ps_setLc (i := 1) (own := [("k", 2)]) (g := gName 2) rfl sc_law_by_marks.nd rfl rfl (sw_true rfl rfl rfl (by decide +kernel)) (pi_range1 (by rfl) T.m_range (pa_cons (pe_callB call_len_seq (by rfl) T.m_len PySem.boot_len (pa_cons (pv 0) pa_nil)) pa_nil)) (blkOk_by (own := [("k", 2)]) (N := ["marks", "piles", "k", "pile"]) (sc := defScope s_law_by_marks) (by decide +kernel)) (fun _ _ _ _ _ => pg_name (i := 2) sc_law_by_marks.nd rfl (Or.inl rfl)) (fun _ _ _ _ _ => pts_nil) (fun _ _ _ _ _ => (pe_op op_add (pe_op op_sub (pe_op op_sub (pe_callB (call_len_seqK K) (by rfl) T.m_len PySem.boot_len (pa_cons (pv 0) pa_nil)) pe_int) (pv 2)) (pe_ix (ix_listK K) (pv 0) (pv 2) (fun _ _ => rfl)))))
      (pss_one (ps_ret (pe_lc (own := [("pile", 3)]) (g := gName 3) rfl sc_law_by_marks.nd (pi_list (pv 1)) (blkOk_by (own := [("pile", 3)]) (N := ["marks", "piles", "k", "pile"]) (sc := defScope s_law_by_marks) (by decide +kernel)) (fun _ _ _ _ _ => pg_name (i := 3) sc_law_by_marks.nd rfl (Or.inl rfl)) (fun _ _ _ _ _ => (pts_one (pt_cmpR op_gt (pv 3) pe_int (nomark _)))) (fun _ _ _ _ _ => (pv 3)))))), ?_⟩
  refine ⟨_, rfl, a, _, rfl, .inl (sq hS), _, rfl, by rw [nlen]; omega, by rw [nlen]; omega, fun D nD => lc_range (lo := 0) (n := ((ms.map V.int).length : Int).toNat) (fun i H' => Same H H' ∧ IL H' D ((mk ms).take i)) ⟨same_new nD _, upd_same⟩ ?_ ?_⟩
  · intro i H' hi h
    obtain ⟨sm, eD⟩ := h
    rw [nlen] at hi
    have hi : i < ms.length := by omega
    refine ⟨rfl, _, rfl, a, _, rfl, .inl (sq (sm _ _ hS)), _, _, rfl, rfl, _, rfl, _, _, rfl, rfl, _, rfl, _, rfl, a, _, _, .int ms[i], rfl, rfl, sq (sm _ _ hS), at_of (j := i) (by omega) (int_get (List.getElem?_eq_getElem hi)), _, _, rfl, rfl, _, eD, ?_, same_mut sm nD _, ?_⟩
    · rw [nlen, List.length_take, mk_length]
      exact smallL (by omega)
    · have g := mk_get (List.getElem?_eq_getElem hi)
      show upd _ _ _ _ = _
      rw [upd_same, take_snoc g, List.map_append, nlen]
      congr 4
      simp
  · intro H1 h
    obtain ⟨sm, eD⟩ := h
    rw [nlen, Int.toNat_natCast, ← mk_length, List.take_length] at eD
    refine ⟨_, rfl, D, rfl, ⟨_, sq eD⟩, fun G nG => lc_list (K := K) (a := D) (xs := (mk ms).map V.int) (fun i H' => Same H1 H' ∧ IL H' G (((mk ms).take i).filter fun z => decide (z > 0))) ⟨same_new nG _, upd_same⟩ (fun i H' _ h => sq (h.1 _ _ eD)) ?_ ?_⟩
    · intro i x H' hx h
      obtain ⟨z, hz, rfl⟩ := get_int hx
      obtain ⟨sm2, eG⟩ := h
      refine ⟨rfl, _, rfl, _, _, rfl, rfl, _, rfl, ?_⟩
      rw [take_snoc hz, List.filter_append]
      refine ite2 (fun c => ?_) (fun c => ?_)
      · have c' : z > 0 := of_decide_eq_true c
        refine ⟨_, rfl, _, eG, ?_, same_mut sm2 nG _, ?_⟩
        · rw [nlen]
          have := List.length_filter_le (fun z => decide (z > 0)) ((mk ms).take i)
          rw [List.length_take, mk_length] at this
          exact smallL (by omega)
        · show upd _ _ _ _ = _
          rw [upd_same, List.map_append, List.filter_cons, if_pos (decide_eq_true c')] <;> rfl
      · have c' : ¬ z > 0 := fun h => c (decide_eq_true h)
        refine ⟨sm2, ?_⟩
        rw [List.filter_cons, if_neg (by simp only [decide_eq_true_eq]; exact c'), List.filter_nil, List.append_nil]
        exact eG
    · intro H2 h
      obtain ⟨sm2, eG⟩ := h
      rw [nlen, List.take_length] at eG
      exact q H2 G (sm.trans sm2) (sm.free nG) eG

end

section
variable {P : Program} {w : World} {K : PySem.W.Frag} {mg : Str → Option Value} {base : Heap}
theorem sc_law_drawn_marks : FnScope ["script", "k", "coins", "stair", "ones", "step", "marks", "j"] ["script", "k", "coins"] (defScope s_law_drawn_marks) := ⟨rfl, rfl, rfl, by decide +kernel, rfl, by decide +kernel, by decide +kernel⟩
theorem bits_sum_le {ms : List Int} (h : Bits ms) : 0 ≤ ms.sum := by
  induction ms with
  | nil => exact Int.le_refl 0
  | cons x r ih =>
    have := h x (List.mem_cons_self ..)
    have := ih fun z hz => h z (List.mem_cons_of_mem _ hz)
    rw [List.sum_cons]
    omega
theorem ins_facts {l : List Int} {j : Nat} {x : Int} : (∀ z, z ∈ l.take j ++ [x] ++ l.drop j ↔ z = x ∨ z ∈ l) ∧ (l.take j ++ [x] ++ l.drop j).sum = x + l.sum ∧ (l.take j ++ [x] ++ l.drop j).length = l.length + 1 := by
  have p : (l.take j ++ [x] ++ l.drop j).Perm (x :: l) := by
    have h := (List.perm_middle (a := x) (l₁ := l.take j) (l₂ := l.drop j))
    rw [List.take_append_drop] at h
    rw [List.append_assoc]
    exact h
  exact ⟨fun z => by rw [p.mem_iff, List.mem_cons], by rw [perm_sum p, List.sum_cons], p.length_eq⟩
def sp_law_drawn_marks (K : PySem.W.Frag) : Sp := fun vs H Q _ => ∃ (a : Addr) (ns : List Int) (k : Int) (n : Nat), vs = [.ref a, .int k, .int n] ∧ SL K H a ns ∧ 0 ≤ k ∧ 1 ≤ n ∧ n ≤ 100 ∧
  ∀ ms : List Int, Bits ms → ms.length = stair n → ms.sum = (restOf n : Int) → NL Q H ms
theorem ok_law_drawn_marks (T : Txt K mg) : Cal P w K mg base CX0 2 "_law_drawn_marks" ["script", "k", "coins"] (sp_law_drawn_marks K) := by
  have C_law_cell := ok_law_cell (P := P) (w := w) (base := base) T
  have C_law_next := ok_law_next (P := P) (w := w) (base := base) T
  have C_law_stair := ok_law_stair (P := P) (w := w) (base := base) T
  refine cal_mk T.d_law_drawn_marks sc_law_drawn_marks ?_ (fun _ _ _ _ _ _ us hl => match us, hl with | [_, _, _], _ => rfl) (fun f cdv A outer s H vs Q E hr h => ?_)
  · intro vs H Q E h
    obtain ⟨a, ns, k, n, rfl, _⟩ := h
    rfl
  obtain ⟨a, ns, k, n, rfl, hS, h0, h1, h2, q⟩ := h
  refine ⟨_, (pss_cons (ps_set (i := 3) sc_law_drawn_marks.nd rfl (Or.inl rfl) (pe_callF C_law_stair (hr.mono (by decide)) (pa_cons (pv 2) pa_nil)))
      (pss_cons (ps_set (i := 4) sc_law_drawn_marks.nd rfl (Or.inl rfl) (pe_op op_sub (pv 2) (pe_op op_fdiv (pe_op op_mul (pv 3) (pe_op op_sub (pv 3) pe_int)) pe_int)))
      (pss_cons (ps_set (i := 5) sc_law_drawn_marks.nd rfl (Or.inl rfl) (pe_callF C_law_next (hr.mono (by decide)) (pa_cons (pe_op op_add (pe_op op_mod (pe_op op_mul (pe_callF C_law_cell (hr.mono (by decide)) (pa_cons (pv 0) (pa_cons (pv 1) pa_nil))) pe_int) pe_int) pe_int) pa_nil)))
      (pss_cons (ps_set (i := 6) sc_law_drawn_marks.nd rfl (Or.inl rfl) (pe_lst pa_nil))
      (pss_cons (ps_for PassesOwn.never rfl (pi_range1 (by rfl) T.m_range (pa_cons (pv 3) pa_nil)) (pg_name (i := 7) sc_law_drawn_marks.nd rfl (Or.inl rfl))
      (pss_cons (ps_set (i := 5) sc_law_drawn_marks.nd rfl (Or.inl rfl) (pe_callF C_law_next (hr.mono (by decide)) (pa_cons (pv 5) pa_nil)))
      (pss_one (ps_expr (pe_bm PySem.F.plainAttrs_list PySem.F.slot_list_insert PySem.F.type_list_insert mt_insert (pv 6) (pa_cons (pe_op op_mod (pe_op op_fdiv (pv 5) pe_int) (pe_op op_add (pv 7) pe_int)) (pa_cons (pe_callTy (T := "int") call_int1 (by rfl) T.m_int (by decide +kernel) (pa_cons (pe_cmpR op_lt (pv 7) (pv 4) (nomark _)) pa_nil)) pa_nil)))))))
      (pss_one (ps_ret (pv 6)))))))), ?_⟩
  obtain ⟨r1, r2, r3⟩ := rest_spec h1
  have hs := stair_le h1 (b := 14) (by omega) (by omega)
  have hs1 := (stair_spec h1).1
  generalize hst : stair n = S at *
  generalize hro : restOf n = R at *
  refine ⟨_, rfl, n, rfl, h1, by omega, ?_⟩
  rw [hst]
  have e1 : (n : Int) - (S : Int) * ((S : Int) - 1) / 2 = (R : Int) := by
    have : (S : Int) * ((S : Int) - 1) = ((S * (S - 1) : Nat) : Int) := by
      rw [Int.natCast_mul]
      congr 1
      omega
    rw [this]
    omega
  refine ⟨_, rfl, _, rfl, _, rfl, _, _, rfl, rfl, _, _, rfl, rfl, .inl ⟨by omega, by omega⟩, _, _, rfl, rfl, ⟨by decide, by decide⟩, _, _, rfl, rfl, ?_⟩
  refine ⟨_, rfl, _, rfl, a, ns, k, rfl, hS, h0, fun z1 => ⟨_, _, rfl, rfl, .inr ⟨by decide, by decide⟩, _, _, rfl, rfl, (by show (0 : Int) < 2147483647; decide), _, _, rfl, rfl, _, rfl, fun z2 => ?_⟩⟩
  refine ⟨Nat.zero_le _, fun M nM => ?_⟩
  refine ⟨_, rfl, _, rfl, by omega, by omega, for_range (lo := 0) (n := (S : Int).toNat) (fun i σ H' => ∃ (st y : Option V) (ms : List Int), (∃ z, st = some (.int z)) ∧ σ = [some (.ref a), some (.int k), some (.int n), some (.int S), some (.int ((n : Int) - (S : Int) * ((S : Int) - 1) / 2)), st, some (.ref M), y] ∧
    Same H H' ∧ IL H' M ms ∧ Bits ms ∧ ms.length = i ∧ ms.sum = ((min i R : Nat) : Int)) ⟨_, none, [], ⟨z2, rfl⟩, rfl, same_new nM _, upd_same, (fun m hm => by cases hm), rfl, by rw [Nat.zero_min] <;> rfl⟩ ?_ ?_⟩
  · intro i σ H' hi h
    obtain ⟨_, y, ms, ⟨z, rfl⟩, rfl, sm, eM, hb, hlen, hsum⟩ := h
    refine ⟨_, rfl, z, rfl, fun z3 => ?_⟩
    refine ⟨_, rfl, Or.inl ⟨rfl, _, sq eM⟩, _, rfl, _, _, rfl, rfl, ⟨by decide, by decide⟩, _, rfl, _, _, rfl, rfl, _, _, rfl, rfl, (by show (0 : Int) < 0 + (i : Int) + 1; omega), _, rfl, _, rfl, _, _, rfl, rfl, Or.inr ⟨_, rfl, ?_⟩⟩
    have hmod := Int.emod_nonneg (z3 / 64) (show (0 : Int) + (i : Int) + 1 ≠ 0 by omega)
    have hmod2 := Int.emod_lt_of_pos (z3 / 64) (show (0 : Int) < 0 + (i : Int) + 1 by omega)
    generalize hJ : (z3 / 64) % ((0 : Int) + (i : Int) + 1) = J at hmod hmod2
    generalize hbit : (if decide ((0 : Int) + (i : Int) < (n : Int) - (S : Int) * ((S : Int) - 1) / 2) = true then (1 : Int) else 0) = B
    have hB : (i < R ∧ B = 1) ∨ (R ≤ i ∧ B = 0) := by
      by_cases c : i < R
      · rw [e1, if_pos (decide_eq_true (by omega))] at hbit
        exact .inl ⟨c, hbit.symm⟩
      · rw [e1, if_neg (fun h => by have := of_decide_eq_true h; omega)] at hbit
        exact .inr ⟨by omega, hbit.symm⟩
    refine ⟨M, ms.map V.int, J, .int B, rfl, by rw [← hJ, ← hbit] <;> rfl, eM, by rw [nlen]; exact smallL (by omega), hmod, by omega, ?_⟩
    obtain ⟨f1, f2, f3⟩ := ins_facts (l := ms) (j := J.toNat) (x := B)
    refine ⟨_, _, ms.take J.toNat ++ [B] ++ ms.drop J.toNat, ⟨z3, rfl⟩, rfl, same_mut sm nM _, ?_, fun m hm => ?_, by omega, ?_⟩
    · show upd _ _ _ _ = _
      rw [upd_same, List.map_append, List.map_append, List.map_take, List.map_drop] <;> rfl
    · rcases (f1 m).mp hm with e | e
      · omega
      · exact hb m e
    · rw [f2, hsum]
      omega
  · intro σ H' h
    obtain ⟨_, y, ms, ⟨z, rfl⟩, rfl, sm, eM, hb, hlen, hsum⟩ := h
    refine ⟨_, rfl, q ms hb (by omega) (by rw [hsum]; omega) H' M sm nM eM⟩

end

section
variable {P : Program} {w : World} {K : PySem.W.Frag} {mg : Str → Option Value} {base : Heap}
theorem sc_law_elder : FnScope ["piles", "number", "many", "some", "at", "rest", "pile", "k"] ["piles", "number"] (defScope s_law_elder) := ⟨rfl, rfl, rfl, by decide +kernel, rfl, by decide +kernel, by decide +kernel⟩
def sp_law_elder (K : PySem.W.Frag) : Sp := fun vs H Q _ => ∃ (a : Addr) (ns : List Int) (z n : Int), vs = [.ref a, .int z] ∧ IL H a ns ∧ IsSet n ns ∧ n ≤ 100 ∧
  ∀ H' p ms, Same H H' → IL H' p ms → IsSet n ms → Q (.ref p) H'
theorem ok_law_elder (T : Txt K mg) : Cal P w K mg base CX0 1 "_law_elder" ["piles", "number"] (sp_law_elder K) := by
  refine cal_mk T.d_law_elder sc_law_elder ?_ (fun _ _ _ _ _ _ us hl => match us, hl with | [_, _], _ => rfl) (fun f cdv A outer s H vs Q E hr h => ?_)
  · intro vs H Q E h
    obtain ⟨a, ns, z, n, rfl, _⟩ := h
    rfl
  obtain ⟨a, ns, z, n, rfl, hS, hset, hn, q⟩ := h
  have hlen := hset.len
  refine ⟨_, (pss_cons (ps_set (i := 2) sc_law_elder.nd rfl (Or.inr rfl) (pe_callB call_len_seq (by rfl) T.m_len PySem.boot_len (pa_cons (pv 0) pa_nil)))
      (pss_cons (ps_setLc (i := 3) (own := [("at", 4)]) (g := gName 4) rfl sc_law_elder.nd rfl rfl (sw_true rfl rfl rfl (by decide +kernel)) (pi_range1 (by rfl) T.m_range (pa_cons (pv 2) pa_nil)) (blkOk_by (own := [("at", 4)]) (N := ["piles", "number", "many", "some", "at", "rest", "pile", "k"]) (sc := defScope s_law_elder) (by decide +kernel)) (fun _ _ _ _ _ => pg_name (i := 4) sc_law_elder.nd rfl (Or.inl rfl)) (fun _ _ _ _ _ => (pts_one (pt_cmpR op_ge (pe_ix (ix_listK K) (pv 0) (pv 4) (fun _ _ => rfl)) (pe_op op_sub (pv 2) pe_int) (nomark _)))) (fun _ _ _ _ _ => (pv 4)))
      (pss_cons (ps_if (pt_cmpR op_eq (pe_callB call_len_seq (by rfl) T.m_len PySem.boot_len (pa_cons (pv 3) pa_nil)) pe_int (nomark _))
      (pss_one (ps_ret (pv 0))) pss_nil)
      (pss_cons (ps_set (i := 4) sc_law_elder.nd rfl (Or.inl rfl) (pe_ix ix_list (pv 3) (pe_op op_mod (pv 1) (pe_callB call_len_seq (by rfl) T.m_len PySem.boot_len (pa_cons (pv 3) pa_nil))) (fun _ _ => rfl)))
      (pss_cons (ps_setLc (i := 5) (own := [("pile", 6)]) (g := gName 6) rfl sc_law_elder.nd rfl rfl (sw_true rfl rfl rfl (by decide +kernel)) (pi_list (pe_op op_cat (pe_slice sl_list (pv 0) po_none (po_some (pv 4))) (pe_slice sl_list (pv 0) (po_some (pe_op op_add (pv 4) pe_int)) po_none))) (blkOk_by (own := [("pile", 6)]) (N := ["piles", "number", "many", "some", "at", "rest", "pile", "k"]) (sc := defScope s_law_elder) (by decide +kernel)) (fun _ _ _ _ _ => pg_name (i := 6) sc_law_elder.nd rfl (Or.inl rfl)) (fun _ _ _ _ _ => pts_nil) (fun _ _ _ _ _ => (pe_op op_add (pv 6) pe_int)))
      (pss_one (ps_ret (pe_op op_cat (pv 5) (pe_lc (own := [("k", 7)]) (g := gName 7) rfl sc_law_elder.nd (pi_range1 (by rfl) T.m_range (pa_cons (pe_op op_sub (pe_ix ix_list (pv 0) (pv 4) (fun _ _ => rfl)) (pe_callB call_len_seq (by rfl) T.m_len PySem.boot_len (pa_cons (pv 5) pa_nil))) pa_nil)) (blkOk_by (own := [("k", 7)]) (N := ["piles", "number", "many", "some", "at", "rest", "pile", "k"]) (sc := defScope s_law_elder) (by decide +kernel)) (fun _ _ _ _ _ => pg_name (i := 7) sc_law_elder.nd rfl (Or.inl rfl)) (fun _ _ _ _ _ => pts_nil) (fun _ _ _ _ _ => pe_int)))))))))), ?_⟩
  refine ⟨_, rfl, a, _, rfl, .inl (sq hS), ?_⟩
  rw [nlen]
  -- some
  refine ⟨_, rfl, _, rfl, by omega, by omega, fun D nD => lc_range (lo := 0) (n := (ns.length : Int).toNat) (fun i H' => Same H H' ∧ ∃ is : List Int, IL H' D is ∧ is.length ≤ i ∧ ∀ x ∈ is, ∃ (j : Nat) (p : Int), x = j ∧ ns[j]? = some p ∧ p ≥ (ns.length : Int) - 1)
    ⟨same_new nD _, [], upd_same, Nat.le_refl _, fun x hx => by cases hx⟩ ?_ ?_⟩
  · intro i H' hi h
    obtain ⟨sm, is, eD, hi2, hall⟩ := h
    have hi : i < ns.length := by omega
    refine ⟨rfl, _, rfl, _, rfl, a, _, _, .int ns[i], rfl, rfl, sq (sm _ _ hS), at_of (j := i) (by omega) (int_get (List.getElem?_eq_getElem hi)), _, rfl, _, _, rfl, rfl, _, _, rfl, rfl, _, rfl, ite2 (fun c => ?_) (fun c => ?_)⟩
    · have c' : (ns.length : Int) - 1 ≤ ns[i] := of_decide_eq_true c
      refine ⟨_, rfl, _, eD, by rw [nlen]; exact smallL (by omega), same_mut sm nD _, is ++ [(i : Int)], ?_, by rw [List.length_append, List.length_singleton]; omega, fun x hx => ?_⟩
      · show upd _ _ _ _ = _
        rw [upd_same, List.map_append, Int.zero_add] <;> rfl
      · rcases List.mem_append.mp hx with hx | hx
        · exact hall x hx
        · exact ⟨i, ns[i], List.mem_singleton.mp hx, List.getElem?_eq_getElem hi, c'⟩
    · exact ⟨sm, is, eD, by omega, hall⟩
  · intro H1 h
    obtain ⟨sm, is, eD, hi2, hall⟩ := h
    -- if len(some) == 0
    refine ⟨_, rfl, D, _, rfl, .inl (sq eD), rfl, _, rfl, ?_⟩
    rw [nlen]
    refine ite2 (fun c => ?_) (fun c => ?_)
    · exact ⟨_, rfl, q H1 a ns sm (sm _ _ hS) hset⟩
    · have hpos : 0 < is.length := by
        rcases Nat.eq_zero_or_pos is.length with e | e
        · exact absurd (decide_eq_true (by rw [e] <;> rfl)) c
        · exact e
      have hm1 := Int.emod_nonneg z (show (is.length : Int) ≠ 0 by omega)
      have hm2 := Int.emod_lt_of_pos z (show (0 : Int) < (is.length : Int) by omega)
      obtain ⟨J, hJ⟩ : ∃ J : Nat, z % (is.length : Int) = J := ⟨(z % (is.length : Int)).toNat, by omega⟩
      have hJl : J < is.length := by omega
      obtain ⟨j, p, ej, hp, hb⟩ := hall is[J] (List.getElem_mem hJl)
      have hjl : j < ns.length := (List.getElem?_eq_some_iff.mp hp).1
      refine ⟨_, rfl, _, rfl, _, rfl, D, _, rfl, .inl (sq eD), _, _, rfl, rfl, (by rw [nlen]; show (0 : Int) < _; omega), D, _, _, .int is[J], rfl, rfl, sq eD, at_of (j := J) (by rw [nlen]; exact hJ) (int_get (List.getElem?_eq_getElem hJl)), ?_⟩
      rw [ej]
      -- rest
      have hA1 : SqL K H1 a (ns.map V.int) := sq (sm _ _ hS)
      refine ⟨_, rfl, _, rfl, _, rfl, a, _, rfl, hA1, fun p1 n1 => ?_⟩
      rw [cut_to _ (by rw [nlen]; omega)]
      have sm1 := same_new n1 (.lst ((ns.map V.int).take j))
      refine ⟨_, rfl, _, rfl, _, _, rfl, rfl, (j : Int) + 1, rfl, a, _, rfl, sm1.seq hA1, fun p2 n2 => ?_⟩
      rw [show (j : Int) + 1 = ((j + 1 : Nat) : Int) by omega, cut_from _ (by rw [nlen]; omega)]
      have sm2 := same_new n2 (.lst ((ns.map V.int).drop (j + 1)))
      obtain ⟨s1, s2⟩ := take_drop_sum hp
      refine ⟨p1, p2, _, _, rfl, rfl, sm2 _ _ upd_same, upd_same, by rw [List.length_take, List.length_drop, nlen]; exact small (by omega), fun p3 n3 => ?_⟩
      have sm3 := same_new n3 (.lst ((ns.map V.int).take j ++ (ns.map V.int).drop (j + 1)))
      have e3 : IL (upd (upd (upd H1 p1 (.lst ((ns.map V.int).take j))) p2 (.lst ((ns.map V.int).drop (j + 1)))) p3 (.lst ((ns.map V.int).take j ++ (ns.map V.int).drop (j + 1)))) p3 (ns.take j ++ ns.drop (j + 1)) := by
        show upd _ _ _ _ = _
        rw [upd_same, List.map_append, List.map_take, List.map_drop]
      have smA := (sm1.trans sm2).trans sm3
      generalize (upd (upd (upd H1 p1 (.lst ((ns.map V.int).take j))) p2 (.lst ((ns.map V.int).drop (j + 1)))) p3 (.lst ((ns.map V.int).take j ++ (ns.map V.int).drop (j + 1)))) = H2 at *
      generalize hrs : ns.take j ++ ns.drop (j + 1) = rs at *
      refine ⟨p3, rfl, ⟨_, sq e3⟩, fun G nG => lc_list (K := K) (a := p3) (xs := rs.map V.int) (fun i H' => Same H2 H' ∧ IL H' G ((rs.take i).map (· + 1))) ⟨same_new nG _, upd_same⟩ (fun i H' _ h => sq (h.1 _ _ e3)) ?_ ?_⟩
      · intro i x H' hx h
        obtain ⟨y, hy, rfl⟩ := get_int hx
        obtain ⟨sm4, eG⟩ := h
        have hil : i < rs.length := (List.getElem?_eq_some_iff.mp hy).1
        refine ⟨rfl, _, rfl, _, _, rfl, rfl, _, eG, ?_, same_mut sm4 nG _, ?_⟩
        · rw [nlen, List.length_map, List.length_take]
          exact smallL (by omega)
        · show upd _ _ _ _ = _
          rw [upd_same, take_snoc hy, List.map_append, List.map_append] <;> rfl
      · intro H3 h
        obtain ⟨sm4, eG⟩ := h
        rw [nlen, List.take_length] at eG
        have smB := sm.trans (smA.trans sm4)
        have hA3 : SqL K H3 a (ns.map V.int) := sq (smB _ _ hS)
        have hpn : 1 ≤ p := hset.1.pos p (List.mem_of_getElem? hp)
        have hpn2 := hset.le (List.mem_of_getElem? hp)
        have hcnt : ((rs.map (· + 1)).map V.int).length = rs.length := by rw [nlen, List.length_map]
        -- rest + [1 for k in ..]
        refine ⟨_, rfl, _, rfl, _, rfl, a, _, _, .int p, rfl, rfl, hA3, at_of (j := j) rfl (int_get hp), _, rfl, G, _, rfl, .inl (sq eG), _, _, rfl, rfl, _, rfl, ?_⟩
        rw [hcnt]
        refine ⟨by omega, by omega, fun N nN => lc_range (lo := 0) (n := (p - (rs.length : Int)).toNat) (fun i H' => Same H3 H' ∧ IL H' N (List.replicate i 1)) ⟨same_new nN _, upd_same⟩ ?_ ?_⟩
        · intro i H' hi h
          obtain ⟨sm5, eN⟩ := h
          refine ⟨rfl, _, eN, by rw [nlen, List.length_replicate]; exact smallL (by omega), same_mut sm5 nN _, ?_⟩
          show upd _ _ _ _ = _
          rw [upd_same, List.replicate_succ', List.map_append] <;> rfl
        · intro H4 h
          obtain ⟨sm5, eN⟩ := h
          refine ⟨G, N, _, _, rfl, rfl, sm5 _ _ eG, eN, by rw [nlen, nlen, List.length_map, List.length_replicate]; exact small (by omega), fun r nr => ?_⟩
          refine q _ r (elderAt ns j p) ((smB.trans sm5).trans (same_new nr _)) ?_ (elder_set hset hp hb)
          show upd _ _ _ _ = _
          rw [upd_same, ← List.map_append]
          unfold elderAt
          rw [hrs, show (rs.length : Int) = (ns.length : Int) - 1 by omega]

end

section
variable {P : Program} {w : World} {K : PySem.W.Frag} {mg : Str → Option Value} {base : Heap}
theorem sc_law_drawn_piles : FnScope ["script", "k", "coins", "cap", "step", "piles", "left"] ["script", "k", "coins", "cap"] (defScope s_law_drawn_piles) := ⟨rfl, rfl, rfl, by decide +kernel, rfl, by decide +kernel, by decide +kernel⟩
def sp_law_drawn_piles (K : PySem.W.Frag) : Sp := fun vs H Q _ => ∃ (a : Addr) (ns : List Int) (k n c : Int), vs = [.ref a, .int k, .int n, .int c] ∧ SL K H a ns ∧ 0 ≤ k ∧ 1 ≤ n ∧ n ≤ 100 ∧ 1 ≤ c ∧
  ∀ ms : List Int, IsSet n ms → NL Q H ms
theorem ok_law_drawn_piles (T : Txt K mg) : Cal P w K mg base CX0 2 "_law_drawn_piles" ["script", "k", "coins", "cap"] (sp_law_drawn_piles K) := by
  have C_law_cell := ok_law_cell (P := P) (w := w) (base := base) T
  have C_law_fallen := ok_law_fallen (P := P) (w := w) (base := base) T
  have C_law_next := ok_law_next (P := P) (w := w) (base := base) T
  refine cal_mk T.d_law_drawn_piles sc_law_drawn_piles ?_ (fun _ _ _ _ _ _ us hl => match us, hl with | [_, _, _, _], _ => rfl) (fun f cdv A outer s H vs Q E hr h => ?_)
  · intro vs H Q E h
    obtain ⟨a, ns, k, n, c, rfl, _⟩ := h
    rfl
  obtain ⟨a, ns, k, n, c, rfl, hS, h0, h1, h2, h3, q⟩ := h
  refine ⟨_, (pss_cons (ps_set (i := 4) sc_law_drawn_piles.nd rfl (Or.inl rfl) (pe_callF C_law_next (hr.mono (by decide)) (pa_cons (pe_op op_add (pe_op op_mod (pe_op op_mul (pe_callF C_law_cell (hr.mono (by decide)) (pa_cons (pv 0) (pa_cons (pv 1) pa_nil))) pe_int) pe_int) pe_int) pa_nil)))
      (pss_cons (ps_set (i := 5) sc_law_drawn_piles.nd rfl (Or.inl rfl) (pe_lst pa_nil))
      (pss_cons (ps_set (i := 6) sc_law_drawn_piles.nd rfl (Or.inl rfl) (pv 2))
      (pss_cons (ps_while PassesOwn.never (pt_cmpR op_gt (pv 6) pe_int (nomark _))
      (pss_cons (ps_set (i := 4) sc_law_drawn_piles.nd rfl (Or.inl rfl) (pe_callF C_law_next (hr.mono (by decide)) (pa_cons (pv 4) pa_nil)))
      (pss_cons (ps_expr (pe_bm PySem.F.plainAttrs_list PySem.F.slot_list_append PySem.F.type_list_append mt_append (pv 5) (pa_cons (pe_op op_add pe_int (pe_op op_mod (pe_op op_fdiv (pv 4) pe_int) (pe_callB (call_min2 rfl) (by rfl) T.m_min (by decide +kernel) (pa_cons (pv 6) (pa_cons (pv 3) pa_nil))))) pa_nil)))
      (pss_one (ps_set (i := 6) sc_law_drawn_piles.nd rfl (Or.inl rfl) (pe_op op_sub (pv 6) (pe_ix ix_list (pv 5) (pe_un un_neg pe_int) (fun _ _ => rfl))))))))
      (pss_one (ps_ret (pe_callF C_law_fallen (hr.mono (by decide)) (pa_cons (pv 5) pa_nil)))))))), ?_⟩
  refine ⟨_, rfl, _, rfl, a, ns, k, rfl, hS, h0, fun z1 => ⟨_, _, rfl, rfl, .inr ⟨by decide, by decide⟩, _, _, rfl, rfl, (by show (0 : Int) < 2147483647; decide), _, _, rfl, rfl, _, rfl, fun z2 => ?_⟩⟩
  refine ⟨Nat.zero_le _, fun M nM => ?_⟩
  refine ⟨_, rfl, ?_⟩
  refine ⟨fun m σ H' => ∃ (z l : Int) (ms : List Int), σ = [some (.ref a), some (.int k), some (.int n), some (.int c), some (.int z), some (.ref M), some (.int l)] ∧ Same H H' ∧ IL H' M ms ∧ (∀ x ∈ ms, 1 ≤ x) ∧ 0 ≤ l ∧ ms.sum + l = n ∧ m = l.toNat,
    ⟨_, z2, n, [], rfl, same_new nM _, upd_same, (fun x hx => by cases hx), by omega, by show (0 : Int) + n = n; omega, rfl⟩, fun m σ H' hW => ?_⟩
  obtain ⟨z, l, ms, rfl, sm, eM, hp, hl, hsum, rfl⟩ := hW
  have hlen := len_le_sum hp
  refine ⟨_, rfl, _, _, rfl, rfl, _, rfl, ite2 (fun t => ?_) (fun t => ?_)⟩
  · have t' : 0 < l := of_decide_eq_true t
    refine ⟨fun σ' H2 => ∃ (z l' : Int) (ms : List Int), σ' = [some (.ref a), some (.int k), some (.int n), some (.int c), some (.int z), some (.ref M), some (.int l')] ∧ Same H H2 ∧ IL H2 M ms ∧ (∀ x ∈ ms, 1 ≤ x) ∧ 0 ≤ l' ∧ ms.sum + l' = n ∧ l' < l, fun σ' H2 h => ?_, ?_⟩
    · obtain ⟨z, l', ms, e, a1, a2, a3, a4, a5, a6⟩ := h
      exact ⟨l'.toNat, by omega, z, l', ms, e, a1, a2, a3, a4, a5, rfl⟩
    · refine ⟨_, rfl, z, rfl, fun z3 => ?_⟩
      have hmin : (1 : Int) ≤ (if c < l then c else l) ∧ (if c < l then c else l) ≤ l := by
        by_cases h : c < l
        · rw [if_pos h]
          omega
        · rw [if_neg h]
          omega
      generalize hg : (if c < l then c else l) = g at hmin
      have hm1 := Int.emod_nonneg (z3 / 64) (show g ≠ 0 by omega)
      have hm2 := Int.emod_lt_of_pos (z3 / 64) (show 0 < g by omega)
      refine ⟨_, rfl, Or.inl ⟨rfl, _, sq eM⟩, _, rfl, _, _, rfl, rfl, ⟨by decide, by decide⟩, _, rfl, _, rfl, l, c, rfl, ?_⟩
      rw [hg]
      refine ⟨_, _, rfl, rfl, (by show (0 : Int) < g; omega), _, _, rfl, rfl, M, ms.map V.int, _, rfl, rfl, eM, by rw [nlen]; exact smallL (by omega), ?_⟩
      refine ⟨_, rfl, _, rfl, _, rfl, M, _, _, .int (1 + (z3 / 64) % g), rfl, rfl, sq upd_same, atI_last _ _, _, _, rfl, rfl, ?_⟩
      refine ⟨z3, l - (1 + (z3 / 64) % g), ms ++ [1 + (z3 / 64) % g], rfl, same_mut sm nM _, ?_, fun y hy => ?_, by omega, ?_, by omega⟩
      · show upd _ _ _ _ = _
        rw [upd_same, List.map_append] <;> rfl
      · rcases List.mem_append.mp hy with hy | hy
        · exact hp y hy
        · rw [List.mem_singleton.mp hy]
          omega
      · rw [List.sum_append, List.sum_cons, List.sum_nil]
        omega
  · have t' : ¬ 0 < l := fun h => t (decide_eq_true h)
    have hs : ms.sum = n := by omega
    refine ⟨_, rfl, M, ms, rfl, eM, fun H2 p s2 np ep => q (fall ms) ⟨⟨fun x hx => hp x ((fall_perm ms).mem_iff.mp hx), fall_falls ms, fun e => ?_⟩, by rw [fall_sum]; exact hs⟩ H2 p (sm.trans s2) (sm.free np) ep⟩
    have := fall_sum ms
    rw [e, hs] at this
    have : (0 : Int) = n := this
    omega

end

section
variable {P : Program} {w : World} {K : PySem.W.Frag} {mg : Str → Option Value} {base : Heap}
theorem sc_law_setting : FnScope ["script", "k", "coins", "way", "cap", "j", "piles", "step", "turn"] ["script", "k", "coins"] (defScope s_law_setting) := ⟨rfl, rfl, rfl, by decide +kernel, rfl, by decide +kernel, by decide +kernel⟩
def sp_law_setting (K : PySem.W.Frag) : Sp := fun vs H Q _ => ∃ (a : Addr) (ns : List Int) (k : Int) (n : Nat), vs = [.ref a, .int k, .int n] ∧ SL K H a ns ∧ 0 ≤ k ∧ 1 ≤ n ∧ n ≤ 100 ∧
  ∀ ms : List Int, IsSet n ms → ∀ H' p, Same H H' → IL H' p ms → Q (.ref p) H'
theorem ones_set {n : Nat} (h : 1 ≤ n) : IsSet n (List.replicate n 1) := by
  refine ⟨⟨fun x hx => by rw [List.eq_of_mem_replicate hx]; exact Int.le_refl 1, List.pairwise_replicate.mpr (.inr (Int.le_refl 1)), fun e => ?_⟩, sum_replicate n⟩
  have := congrArg List.length e
  rw [List.length_replicate, List.length_nil] at this
  omega
theorem one_set {n : Nat} (h : 1 ≤ n) : IsSet n [(n : Int)] :=
  ⟨⟨fun x hx => by rw [List.mem_singleton.mp hx]; omega, List.pairwise_singleton _ _, List.cons_ne_nil _ _⟩, by rw [List.sum_cons, List.sum_nil]; omega⟩
theorem ok_law_setting (T : Txt K mg) : Cal P w K mg base CX0 3 "_law_setting" ["script", "k", "coins"] (sp_law_setting K) := by
  have C_law_by_marks := ok_law_by_marks (P := P) (w := w) (base := base) T
  have C_law_cell := ok_law_cell (P := P) (w := w) (base := base) T
  have C_law_drawn_marks := ok_law_drawn_marks (P := P) (w := w) (base := base) T
  have C_law_drawn_piles := ok_law_drawn_piles (P := P) (w := w) (base := base) T
  have C_law_elder := ok_law_elder (P := P) (w := w) (base := base) T
  have C_law_next := ok_law_next (P := P) (w := w) (base := base) T
  refine cal_mk T.d_law_setting sc_law_setting ?_ (fun _ _ _ _ _ _ us hl => match us, hl with | [_, _, _], _ => rfl) (fun f cdv A outer s H vs Q E hr h => ?_)
  · intro vs H Q E h
    obtain ⟨a, ns, k, n, rfl, _⟩ := h
    rfl
  obtain ⟨a, ns, k, n, rfl, hS, h0, h1, h2, q⟩ := h
  have hs := stair_le h1 (b := 14) (by omega) (by omega)
  refine ⟨_, (pss_cons (ps_set (i := 3) sc_law_setting.nd rfl (Or.inl rfl) (pe_op op_mod (pe_callF C_law_cell (hr.mono (by decide)) (pa_cons (pv 0) (pa_cons (pv 1) pa_nil))) pe_int))
      (pss_cons (ps_set (i := 4) sc_law_setting.nd rfl (Or.inl rfl) (pe_op op_add pe_int (pe_op op_mod (pe_callF C_law_cell (hr.mono (by decide)) (pa_cons (pv 0) (pa_cons (pe_op op_add (pv 1) pe_int) pa_nil))) (pv 2))))
      (pss_cons (ps_if (PW.pt (pw_or (pt_cmpR op_eq (pv 3) pe_int (nomark _)) (pw_or1 (pt_cmpR op_eq (pv 3) pe_int (nomark _)))))
      (pss_one (ps_ret (pe_callF C_law_drawn_piles (hr.mono (by decide)) (pa_cons (pv 0) (pa_cons (pe_op op_add (pv 1) pe_int) (pa_cons (pv 2) (pa_cons (pv 4) pa_nil))))))) pss_nil)
      (pss_cons (ps_if (pt_cmpR op_eq (pv 3) pe_int (nomark _))
      (pss_one (ps_ret (pe_ix ix_list (pe_lst (pa_cons (pe_lst (pa_cons (pv 2) pa_nil)) (pa_cons (pe_lc (own := [("j", 5)]) (g := gName 5) rfl sc_law_setting.nd (pi_range1 (by rfl) T.m_range (pa_cons (pv 2) pa_nil)) (blkOk_by (own := [("j", 5)]) (N := ["script", "k", "coins", "way", "cap", "j", "piles", "step", "turn"]) (sc := defScope s_law_setting) (by decide +kernel)) (fun _ _ _ _ _ => pg_name (i := 5) sc_law_setting.nd rfl (Or.inl rfl)) (fun _ _ _ _ _ => pts_nil) (fun _ _ _ _ _ => pe_int)) pa_nil))) (pe_op op_mod (pe_callF C_law_cell (hr.mono (by decide)) (pa_cons (pv 0) (pa_cons (pe_op op_add (pv 1) pe_int) pa_nil))) pe_int) (fun _ _ => rfl)))) pss_nil)
      (pss_cons (ps_set (i := 6) sc_law_setting.nd rfl (Or.inl rfl) (pe_callF C_law_by_marks (hr.mono (by decide)) (pa_cons (pe_callF C_law_drawn_marks (hr.mono (by decide)) (pa_cons (pv 0) (pa_cons (pe_op op_add (pv 1) pe_int) (pa_cons (pv 2) pa_nil)))) pa_nil)))
      (pss_cons (ps_set (i := 7) sc_law_setting.nd rfl (Or.inl rfl) (pe_callF C_law_next (hr.mono (by decide)) (pa_cons (pe_op op_add (pe_op op_mod (pe_op op_mul (pe_callF C_law_cell (hr.mono (by decide)) (pa_cons (pv 0) (pa_cons (pe_op op_add (pv 1) pe_int) pa_nil))) pe_int) pe_int) pe_int) pa_nil)))
      (pss_cons (ps_if (pt_cmpR op_gt (pv 3) pe_int (nomark _))
      (pss_one (ps_for PassesOwn.never rfl (pi_range1 (by rfl) T.m_range (pa_cons (pe_op op_mod (pe_callF C_law_cell (hr.mono (by decide)) (pa_cons (pv 0) (pa_cons (pe_op op_add (pv 1) pe_int) pa_nil))) pe_int) pa_nil)) (pg_name (i := 8) sc_law_setting.nd rfl (Or.inl rfl))
      (pss_cons (ps_set (i := 7) sc_law_setting.nd rfl (Or.inl rfl) (pe_callF C_law_next (hr.mono (by decide)) (pa_cons (pv 7) pa_nil)))
      (pss_one (ps_set (i := 6) sc_law_setting.nd rfl (Or.inl rfl) (pe_callF C_law_elder (hr.mono (by decide)) (pa_cons (pv 6) (pa_cons (pe_op op_fdiv (pv 7) pe_int) pa_nil)))))))) pss_nil)
      (pss_one (ps_ret (pv 6)))))))))), ?_⟩
  -- way, cap
  refine ⟨_, rfl, _, rfl, a, ns, k, rfl, hS, h0, fun z1 => ⟨_, _, rfl, rfl, (by show (0 : Int) < 6; decide), ?_⟩⟩
  refine ⟨_, rfl, _, rfl, _, _, rfl, rfl, a, ns, k + 1, rfl, hS, by omega, fun z2 => ⟨_, rfl, _, _, rfl, rfl, (by show (0 : Int) < (n : Int); omega), _, _, rfl, rfl, ?_⟩⟩
  have hc1 := Int.emod_nonneg z2 (show (n : Int) ≠ 0 by omega)
  -- way == 0 or way == 1
  refine ⟨_, rfl, rfl, _, rfl, ite2 (fun _ => ?w0) (fun _ => ⟨_, rfl, rfl, _, rfl, ite2 (fun _ => ?w1) (fun _ => ?_)⟩)⟩
  case' w0 => skip
  case' w1 => skip
  iterate 2
    · exact ⟨_, rfl, _, rfl, _, _, rfl, rfl, _, rfl, _, rfl, a, ns, k + 2, n, 1 + z2 % (n : Int), rfl, hS, by omega, by omega, by omega, by omega, fun ms hm H' p sm _ ep => q ms hm H' p sm ep⟩
  -- way == 2
  refine ⟨_, rfl, rfl, _, rfl, ite2 (fun _ => ?_) (fun _ => ?_)⟩
  · refine ⟨_, rfl, (by show 1 ≤ sizeLine; decide), fun p1 n1 => ?_⟩
    have sm1 := same_new n1 (.lst [.int n])
    refine ⟨_, rfl, n, rfl, by omega, by omega, fun D nD => lc_range (lo := 0) (n := (n : Int).toNat) (fun i H' => Same (upd H p1 (.lst [.int n])) H' ∧ IL H' D (List.replicate i 1)) ⟨same_new nD _, upd_same⟩ ?_ ?_⟩
    · intro i H' hi h
      obtain ⟨sm, eD⟩ := h
      refine ⟨rfl, _, eD, by rw [nlen, List.length_replicate]; exact smallL (by omega), same_mut sm nD _, ?_⟩
      show upd _ _ _ _ = _
      rw [upd_same, List.replicate_succ', List.map_append] <;> rfl
    · intro H1 h
      obtain ⟨sm, eD⟩ := h
      refine ⟨(by show 2 ≤ sizeLine; decide), fun p2 n2 => ?_⟩
      have smA := (sm1.trans sm).trans (same_new n2 (.lst [.ref p1, .ref D]))
      have e1 : IL (upd H1 p2 (.lst [.ref p1, .ref D])) p1 [(n : Int)] := same_new n2 _ _ _ (sm _ _ upd_same)
      have e2 : IL (upd H1 p2 (.lst [.ref p1, .ref D])) D (List.replicate (n : Int).toNat 1) := same_new n2 _ _ _ eD
      refine ⟨_, rfl, _, rfl, _, _, rfl, rfl, a, ns, k + 1, rfl, smA.seq hS, by omega, fun z3 => ⟨_, _, rfl, rfl, (by show (0 : Int) < 2; decide), ?_⟩⟩
      have hz := Int.emod_two_eq z3
      rcases hz with hz | hz
      · exact ⟨p2, _, _, .ref p1, rfl, rfl, sq upd_same, at_of (j := 0) hz rfl, q _ (one_set h1) _ _ smA e1⟩
      · exact ⟨p2, _, _, .ref D, rfl, rfl, sq upd_same, at_of (j := 1) hz rfl, q _ (by rw [Int.toNat_natCast]; exact ones_set h1) _ _ smA e2⟩
  · -- round ones and elders
    refine ⟨_, rfl, _, rfl, _, _, rfl, rfl, _, rfl, a, ns, k + 2, n, rfl, hS, by omega, h1, h2, fun ms hb hl hsum H1 p1 sm1 n1 e1 => ?_⟩
    refine ⟨p1, ms, rfl, e1, by omega, fun H2 p2 sm2 n2 e2 => ?_⟩
    have hset := ofMarks_set h1 hb hl hsum
    have smA := sm1.trans sm2
    refine ⟨_, rfl, _, rfl, _, _, rfl, rfl, a, ns, k + 3, rfl, smA.seq hS, by omega, fun z3 => ⟨_, _, rfl, rfl, .inr ⟨by decide, by decide⟩, _, _, rfl, rfl, (by show (0 : Int) < 2147483647; decide), _, _, rfl, rfl, _, rfl, fun z4 => ?_⟩⟩
    refine ⟨_, rfl, _, _, rfl, rfl, _, rfl, ite2 (fun _ => ?_) (fun _ => ?_)⟩
    · refine ⟨_, rfl, _, rfl, _, _, rfl, rfl, a, ns, k + 1, rfl, smA.seq hS, by omega, fun z5 => ⟨_, _, rfl, rfl, (by show (0 : Int) < 120; decide), ?_⟩⟩
      have hm1 := Int.emod_nonneg z5 (show (120 : Int) ≠ 0 by decide)
      have hm2 := Int.emod_lt_of_pos z5 (show (0 : Int) < 120 by decide)
      refine ⟨_, rfl, by omega, by omega, for_range (lo := 0) (n := (z5 % 120).toNat) (fun i σ H' => ∃ (p : Addr) (z : Int) (y : Option V) (ms : List Int), σ = [some (.ref a), some (.int k), some (.int n), some (.int (z1 % 6)), some (.int (1 + z2 % (n : Int))), none, some (.ref p), some (.int z), y] ∧ Same H H' ∧ IL H' p ms ∧ IsSet n ms)
        ⟨p2, z4, none, ofMarks ms, rfl, smA, e2, hset⟩ ?_ ?_⟩
      · intro i σ H' hi h
        obtain ⟨p, z, y, ms', rfl, sm, ep, hset⟩ := h
        refine ⟨_, rfl, z, rfl, fun z6 => ?_⟩
        exact ⟨_, rfl, _, rfl, _, _, rfl, rfl, ⟨by decide, by decide⟩, p, ms', z6 / 64, n, rfl, ep, hset, by omega, fun H3 p3 ms3 sm3 ep3 hset3 => ⟨p3, z6, _, ms3, rfl, sm.trans sm3, ep3, hset3⟩⟩
      · intro σ H' h
        obtain ⟨p, z, y, ms', rfl, sm, ep, hset⟩ := h
        exact ⟨_, rfl, q ms' hset H' p sm ep⟩
    · exact ⟨_, rfl, q _ hset H2 p2 smA e2⟩

end

section
variable {P : Program} {w : World} {K : PySem.W.Frag} {mg : Str → Option Value} {base : Heap}
theorem sc_law_good : FnScope ["piles", "k"] ["piles"] (defScope s_law_good) := ⟨rfl, rfl, rfl, by decide +kernel, rfl, by decide +kernel, by decide +kernel⟩
def sp_law_good : Sp := fun vs H Q _ => ∃ (a : Addr) (ns : List Int), vs = [.ref a] ∧ IL H a ns ∧ ns.length ≤ 1000 ∧ ∀ (b : Bool) (H' : Hp), (b = true ↔ Good ns ∧ ns.sum ≤ 100) → Same H H' → Q (.bl b) H'
theorem ok_law_good (T : Txt K mg) : Cal P w K mg base CX0 1 "_law_good" ["piles"] sp_law_good := by
  refine cal_mk T.d_law_good sc_law_good ?_ (fun _ _ _ _ _ _ us hl => match us, hl with | [_], _ => rfl) (fun f cdv A outer s H vs Q E hr h => ?_)
  · intro vs H Q E h
    obtain ⟨a, ns, rfl, _⟩ := h
    rfl
  obtain ⟨a, ns, rfl, hS, hl, q⟩ := h
  refine ⟨_, (pss_cons (ps_if (PW.pt (pw_or (pt_cmpR op_lt (pe_callB call_len_seq (by rfl) T.m_len PySem.boot_len (pa_cons (pv 0) pa_nil)) pe_int (nomark _)) (pw_or (pt_cmpR op_gt (pe_callB (cr_sum rfl) (by rfl) T.m_sum (by decide +kernel) (pa_cons (pv 0) pa_nil)) pe_int (nomark _)) (pw_or1 (pt_cmpR op_lt (pe_callB (cr_min rfl) (by rfl) T.m_min (by decide +kernel) (pa_cons (pv 0) pa_nil)) pe_int (nomark _))))))
      (pss_one (ps_ret pe_bl)) pss_nil)
      (pss_one (ps_ret (pe_cmpR op_eq (pe_callB call_len_seq (by rfl) T.m_len PySem.boot_len (pa_cons (pe_lc (own := [("k", 1)]) (g := gName 1) rfl sc_law_good.nd (pi_range2 (by rfl) T.m_range (pa_cons pe_int (pa_cons (pe_callB call_len_seq (by rfl) T.m_len PySem.boot_len (pa_cons (pv 0) pa_nil)) pa_nil))) (blkOk_by (own := [("k", 1)]) (N := ["piles", "k"]) (sc := defScope s_law_good) (by decide +kernel)) (fun _ _ _ _ _ => pg_name (i := 1) sc_law_good.nd rfl (Or.inl rfl)) (fun _ _ _ _ _ => (pts_one (pt_cmpR op_gt (pe_ix (ix_listK K) (pv 0) (pv 1) (fun _ _ => rfl)) (pe_ix (ix_listK K) (pv 0) (pe_op op_sub (pv 1) pe_int) (fun _ _ => rfl)) (nomark _)))) (fun _ _ _ _ _ => (pv 1))) pa_nil)) pe_int (nomark _))))), ?_⟩
  have no : (¬ (Good ns ∧ ns.sum ≤ 100)) → Q (.bl false) H := fun h => q false H ⟨fun z => (by cases z), fun z => absurd z h⟩ (Same.refl H)
  refine ⟨_, rfl, a, _, rfl, .inl (sq hS), _, _, rfl, rfl, _, rfl, ite2 (fun c => ?_) (fun c => ⟨_, rfl, a, ns, rfl, sq hS, _, _, rfl, rfl, _, rfl, ite2 (fun c2 => ?_) (fun c2 => ?_)⟩)⟩
  · refine no fun h => ?_
    have c' : ((ns.map V.int).length : Int) < 1 := of_decide_eq_true c
    rw [nlen] at c'
    have := List.length_pos_iff.mpr h.1.ne
    omega
  · refine no fun h => ?_
    have c' : (100 : Int) < ns.sum := of_decide_eq_true c2
    omega
  · have c1' : ¬ ((ns.map V.int).length : Int) < 1 := fun h => c (decide_eq_true h)
    have c2' : ¬ (100 : Int) < ns.sum := fun h => c2 (decide_eq_true h)
    rw [nlen] at c1'
    refine ⟨_, rfl, a, ns, rfl, sq hS, by omega, fun m hm hle => ⟨_, _, rfl, rfl, _, rfl, ite2 (fun c3 => ?_) (fun c3 => ?_)⟩⟩
    · refine no fun h => ?_
      have c3' : m < 1 := of_decide_eq_true c3
      have := h.1.pos m hm
      omega
    · have c3' : ¬ m < 1 := fun h => c3 (decide_eq_true h)
      refine ⟨_, rfl, a, _, rfl, .inl (sq hS), 1, ((ns.map V.int).length : Int), rfl, ⟨by decide, by decide, by rw [nlen]; omega, by rw [nlen]; omega⟩, fun D nD => lc_range (lo := 1) (n := (((ns.map V.int).length : Int) - 1).toNat)
        (fun i H' => Same H H' ∧ ∃ is : List Int, IL H' D is ∧ is.length ≤ i ∧ (is = [] ↔ ∀ j, j < i → ∀ x y, ns[j + 1]? = some x → ns[j]? = some y → x ≤ y)) ⟨same_new nD _, [], upd_same, Nat.le_refl _, fun _ j hj => by omega, fun _ => rfl⟩ ?_ ?_⟩
      · intro i H' hi h
        obtain ⟨sm, is, eD, hil, hiff⟩ := h
        rw [nlen] at hi
        have h1 : i + 1 < ns.length := by omega
        have g1 : ns[i + 1]? = some ns[i + 1] := List.getElem?_eq_getElem h1
        have g0 : ns[i]? = some (ns[i]'(by omega)) := List.getElem?_eq_getElem (by omega)
        refine ⟨rfl, _, rfl, _, rfl, a, _, _, .int ns[i + 1], rfl, rfl, sq (sm _ _ hS), at_of (j := i + 1) (by omega) (int_get g1), _, rfl, _, rfl, _, _, rfl, rfl, a, _, _, .int (ns[i]'(by omega)), rfl, rfl, sq (sm _ _ hS), at_of (j := i) (by omega) (int_get g0), _, _, rfl, rfl, _, rfl, ite2 (fun d => ?_) (fun d => ?_)⟩
        · have d' : ns[i]'(by omega) < ns[i + 1] := of_decide_eq_true d
          refine ⟨_, rfl, _, eD, by rw [nlen]; exact smallL (by omega), same_mut sm nD _, is ++ [1 + (i : Int)], ?_, by rw [List.length_append, List.length_singleton]; omega, ?_⟩
          · show upd _ _ _ _ = _
            rw [upd_same, List.map_append] <;> rfl
          · refine ⟨fun e => by simp at e, fun h => ?_⟩
            have := h i (by omega) _ _ g1 g0
            omega
        · have d' : ¬ ns[i]'(by omega) < ns[i + 1] := fun h => d (decide_eq_true h)
          refine ⟨sm, is, eD, by omega, hiff.trans ⟨fun h j hj x y hx hy => ?_, fun h j hj => h j (by omega)⟩⟩
          rcases Nat.lt_or_ge j i with l | l
          · exact h j l x y hx hy
          · obtain rfl : j = i := by omega
            rw [g1] at hx
            rw [g0] at hy
            have e1 := Option.some.inj hx
            have e2 := Option.some.inj hy
            omega
      · intro H1 h
        obtain ⟨sm, is, eD, hil, hiff⟩ := h
        refine ⟨D, _, rfl, .inl (sq eD), rfl, q _ _ ?_ sm⟩
        rw [nlen] at hiff ⊢
        rw [decide_eq_true_iff]
        constructor
        · intro e
          have e0 : is = [] := List.eq_nil_of_length_eq_zero (by have := V.int.inj e; omega)
          have hf : Falls ns := falls_of_adj fun j x y hx hy => hiff.mp e0 j (by have := (List.getElem?_eq_some_iff.mp hx).1; omega) x y hx hy
          exact ⟨⟨fun x hx => by have := hle x hx; omega, hf, fun e => by rw [e] at c1'; exact c1' (by decide)⟩, by omega⟩
        · intro h
          have : is = [] := hiff.mpr fun j hj x y hx hy => by
            have hx' := List.getElem?_eq_some_iff.mp hx
            have hy' := List.getElem?_eq_some_iff.mp hy
            have := List.pairwise_iff_getElem.mp h.1.falls j (j + 1) hy'.1 hx'.1 (by omega)
            rw [hx'.2, hy'.2] at this
            exact this
          rw [this] <;> rfl

end

/-! ### the law -/
def spLaw (K : PySem.W.Frag) : Sp := fun vs H Q _ => ∃ (a : Addr) (ns : List Int), vs = [.ref a] ∧ SL K H a ns ∧ ns.length ≤ 63 ∧ ∀ H', Q (.bl true) H'
theorem nat_of {z : Int} {m : Int} (h : 0 < m) : ∃ n : Nat, 1 + z % m = (n : Int) ∧ 1 ≤ n ∧ (n : Int) ≤ m := by
  have h1 := Int.emod_nonneg z (show m ≠ 0 by omega)
  have h2 := Int.emod_lt_of_pos z h
  exact ⟨(1 + z % m).toNat, by omega, by omega, by omega⟩

section
variable {P : Program} {w : World} {K : PySem.W.Frag} {mg : Str → Option Value} {base : Heap}
theorem sc_law : FnScope ["script", "piles", "handed", "found", "k", "one", "pile", "kept"] ["script"] (defScope s_law) := ⟨rfl, rfl, rfl, by decide +kernel, rfl, by decide +kernel, by decide +kernel⟩
theorem ok_law_at (T : Txt K mg) {f : Addr} {fd : FuncData} (F : FunD K "law" "law" (defArgs s_law) (defBody s_law) (defScope s_law) [] [] f fd) : FnOk P w K mg base CX0 4 f fd ["script"] (spLaw K) := by
  have C_law_cell := ok_law_cell (P := P) (w := w) (base := base) T
  have C_law_good := ok_law_good (P := P) (w := w) (base := base) T
  have C_law_setting := ok_law_setting (P := P) (w := w) (base := base) T
  have C_law_turned := ok_law_turned (P := P) (w := w) (base := base) T
  have C_law_whole := ok_law_whole (P := P) (w := w) (base := base) T
  have C_elders_of := ok_elders_of (P := P) (w := w) (base := base) T
  have C_turned := ok_turned (P := P) (w := w) (base := base) T
  refine F.ok sc_law (fun vs H Q E h => ?_) (fun cdv A outer s H vs Q E hr h => ?_)
  · obtain ⟨a, ns, rfl, _⟩ := h
    rfl
  obtain ⟨a, ns, rfl, hS, hlen, q⟩ := h
  refine ⟨_, PSs.nox ((pss_cons (ps_set (i := 1) sc_law.nd rfl (Or.inr rfl) (pe_callF C_law_setting (hr.mono (by decide)) (pa_cons (pv 0) (pa_cons pe_int (pa_cons (pe_op op_add pe_int (pe_op op_mod (pe_callF C_law_cell (hr.mono (by decide)) (pa_cons (pv 0) (pa_cons pe_int pa_nil))) pe_int)) pa_nil)))))
      (pss_cons (ps_set (i := 2) sc_law.nd rfl (Or.inl rfl) (pe_callTy (T := "list") call_list_of (by rfl) T.m_list (by decide +kernel) (pa_cons (pv 1) pa_nil)))
      (pss_cons (ps_set (i := 3) sc_law.nd rfl (Or.inl rfl) (pe_callF C_elders_of (hr.mono (by decide)) (pa_cons (pv 2) pa_nil)))
      (pss_cons (ps_if (PW.pt (pw_or (pt_not (pt_val (pe_callB call_isi (by rfl) T.m_isinstance (by decide +kernel) (pa_cons (pv 3) (pa_cons (pe_bltn (v := .ty "list") (by rfl) T.m_list (by decide +kernel) rfl) pa_nil))))) (pw_or1 (pt_cmpR (op_neD hr.units) (pv 2) (pv 1) (nomark _)))))
      (pss_one (ps_ret pe_bl)) pss_nil)
      (pss_cons (ps_for PassesOwn.never rfl (pi_range1 (by rfl) T.m_range (pa_cons (pe_callB call_len_seq (by rfl) T.m_len PySem.boot_len (pa_cons (pv 3) pa_nil)) pa_nil)) (pg_name (i := 4) sc_law.nd rfl (Or.inl rfl))
      (pss_cons (ps_set (i := 5) sc_law.nd rfl (Or.inl rfl) (pe_ix ix_list (pv 3) (pv 4) (fun _ _ => rfl)))
      (pss_cons (ps_if (PW.pt (pw_or (pt_not (pt_val (pe_callB call_isi (by rfl) T.m_isinstance (by decide +kernel) (pa_cons (pv 5) (pa_cons (pe_bltn (v := .ty "list") (by rfl) T.m_list (by decide +kernel) rfl) pa_nil))))) (pw_or1 (pt_not (pt_val (pe_callB (cr_all rfl) (by rfl) T.m_all (by decide +kernel) (pa_cons (pe_lc (own := [("pile", 6)]) (g := gName 6) rfl sc_law.nd (pi_list (pv 5)) (blkOk_by (own := [("pile", 6)]) (N := ["script", "piles", "handed", "found", "k", "one", "pile", "kept"]) (sc := defScope s_law) (by decide +kernel)) (fun _ _ _ _ _ => pg_name (i := 6) sc_law.nd rfl (Or.inl rfl)) (fun _ _ _ _ _ => pts_nil) (fun _ _ _ _ _ => (pe_callF C_law_whole (hr.mono (by decide)) (pa_cons (pv 6) pa_nil)))) pa_nil)))))))
      (pss_one (ps_ret pe_bl)) pss_nil)
      (pss_cons (ps_if (PW.pt (pw_or (pt_cmpR op_eq (pe_callB call_len_seq (by rfl) T.m_len PySem.boot_len (pa_cons (pv 5) pa_nil)) pe_int (nomark _)) (pw_or (pt_not (pt_val (pe_callF C_law_good (hr.mono (by decide)) (pa_cons (pv 5) pa_nil)))) (pw_or1 (pt_cmpR (op_neD hr.units) (pe_callF C_law_turned (hr.mono (by decide)) (pa_cons (pv 5) pa_nil)) (pv 1) (nomark _))))))
      (pss_one (ps_ret pe_bl)) pss_nil)
      (pss_one (ps_if (PW.pt (pw_and (pt_cmpR op_gt (pv 4) pe_int (nomark _)) (pw_and1 (pt_cmpR (op_geL (hu65 hr)) (pe_ix ix_list (pv 3) (pe_op op_sub (pv 4) pe_int) (fun _ _ => rfl)) (pv 5) (nomark _)))))
      (pss_one (ps_ret pe_bl)) pss_nil))))))
      (pss_cons (ps_if (pt_cmpR op_ne (pe_callB call_len_seq (by rfl) T.m_len PySem.boot_len (pa_cons (pv 3) pa_nil)) (pe_lenSet (by rfl) T.m_len (by rfl) T.m_set (pe_lc (own := [("pile", 6)]) (g := gName 6) rfl sc_law.nd (pi_list (pv 1)) (blkOk_by (own := [("pile", 6)]) (N := ["script", "piles", "handed", "found", "k", "one", "pile", "kept"]) (sc := defScope s_law) (by decide +kernel)) (fun _ _ _ _ _ => pg_name (i := 6) sc_law.nd rfl (Or.inl rfl)) (fun _ _ _ _ _ => (pts_one (pt_cmpR op_ge (pv 6) (pe_op op_sub (pe_callB (call_len_seqK K) (by rfl) T.m_len PySem.boot_len (pa_cons (pv 1) pa_nil)) pe_int) (nomark _)))) (fun _ _ _ _ _ => (pv 6)))) (nomark _))
      (pss_one (ps_ret pe_bl)) pss_nil)
      (pss_cons (ps_if (pt_cmpR (op_notInD (hu65 hr)) (pv 1) (pe_callF C_elders_of (hr.mono (by decide)) (pa_cons (pe_callF C_turned (hr.mono (by decide)) (pa_cons (pe_callTy (T := "list") call_list_of (by rfl) T.m_list (by decide +kernel) (pa_cons (pv 1) pa_nil)) pa_nil)) pa_nil)) rfl)
      (pss_one (ps_ret pe_bl)) pss_nil)
      (pss_cons (ps_setLc (i := 7) (own := [("one", 5)]) (g := gName 5) rfl sc_law.nd rfl rfl (sw_true rfl rfl rfl (by decide +kernel)) (pi_list (pv 3)) (blkOk_by (own := [("one", 5)]) (N := ["script", "piles", "handed", "found", "k", "one", "pile", "kept"]) (sc := defScope s_law) (by decide +kernel)) (fun _ _ _ _ _ => pg_name (i := 5) sc_law.nd rfl (Or.inl rfl)) (fun _ _ _ _ _ => pts_nil) (fun _ _ _ _ _ => (pe_callTy (T := "list") (call_list_ofK K) (by rfl) T.m_list (by decide +kernel) (pa_cons (pv 5) pa_nil))))
      (pss_cons (ps_for PassesOwn.never rfl (pi_list (pv 3)) (pg_name (i := 5) sc_law.nd rfl (Or.inl rfl))
      (pss_one (ps_expr (pe_bm PySem.F.plainAttrs_list PySem.F.slot_list_append PySem.F.type_list_append mt_append (pv 5) (pa_cons pe_int pa_nil)))))
      (pss_cons (ps_expr (pe_bm PySem.F.plainAttrs_list PySem.F.slot_list_append PySem.F.type_list_append mt_append (pv 3) (pa_cons (pe_lst pa_nil) pa_nil)))
      (pss_one (ps_ret (pe_cmpR (op_eqD hr.units) (pe_callF C_elders_of (hr.mono (by decide)) (pa_cons (pv 2) pa_nil)) (pv 7) (nomark _))))))))))))))), ?_⟩
  refine ⟨_, rfl, _, rfl, a, ns, 0, rfl, hS, by omega, fun z => ⟨_, _, rfl, rfl, (by show (0 : Int) < 100; decide), _, _, rfl, rfl, ?_⟩⟩
  obtain ⟨n, en, n1, n2⟩ := nat_of (z := z) (m := 100) (by decide)
  refine ⟨a, ns, 1, n, by rw [← en] <;> rfl, hS, by omega, n1, by omega, fun ps hps H1 p sm1 ep => ?_⟩
  have hl := hps.len
  -- handed, found
  refine ⟨_, rfl, p, _, rfl, .inl (sq ep), fun h nh => ?_⟩
  have sm2 := same_new nh (.lst (ps.map V.int))
  have eh : IL (upd H1 h (.lst (ps.map V.int))) h ps := upd_same
  have ep2 := sm2 _ _ ep
  generalize upd H1 h (.lst (ps.map V.int)) = H2 at *
  refine ⟨_, rfl, h, ps, n, rfl, eh, hps, by omega, fun MS hMS hRs H3 f fs sm3 nf nfs hF => ?_⟩
  have hms : ∀ m ∈ MS, ∃ j p, ps[j]? = some p ∧ elderOk ps j = true ∧ m = elderAt ps j p := fun m hm => by
    obtain ⟨j, p, _, h2, h3, h4⟩ := (eldersTo_mem (Nat.le_refl _)).mp (hMS.mem_iff.mp hm)
    exact ⟨j, p, h2, h3, h4⟩
  have hset : ∀ m ∈ MS, IsSet n m ∧ turn m = ps := fun m hm => by
    obtain ⟨j, p, h2, h3, rfl⟩ := hms m hm
    exact ⟨elder_set hps h2 (elderOk_ge h2 h3), elder_turn hps h2 (elderOk_ge h2 h3)⟩
  have hstrict : MS.Pairwise fun a b => ¬ b ≤ a := rise_strict hRs (hMS.nodup_iff.mpr (eldersTo_nodup hps.1.falls (Nat.le_refl _)))
  have hMl : MS.length = (eldersU ps).length := hMS.length_eq
  have hMl2 : MS.length ≤ 100 := by
    have := eldersTo_len ps ps.length
    have h3 : (eldersU ps).length ≤ ps.length := this
    omega
  have hfl := hF.2.len
  have eh3 := sm3 _ _ eh
  have ep3 := sm3 _ _ ep2
  -- if not isinstance(found, list) or handed != piles
  refine ⟨_, rfl, _, .ty "list", .type "list", .type "list", true, rfl, ClsV.ty _, .base (.lst hF.1), kit_ty (by decide +kernel), true, rfl, ?_⟩
  refine ⟨_, rfl, _, rfl, _, _, dp_ints (sq eh3), dp_ints (sq ep3), sh_ints _, sh_ints _, _, rfl, ite2 (fun c => absurd c (by rw [eqv_ints, decide_eq_true rfl] <;> decide)) (fun _ => ?_)⟩
  -- for k in range(len(found))
  refine ⟨_, rfl, f, _, rfl, .inl (sq hF.1), _, rfl, by rw [rlen]; omega, by rw [rlen]; omega, for_range (lo := 0) (n := ((fs.map V.ref).length : Int).toNat) (fun i σ H' => ∃ (y1 y2 : Option V), σ = [some (.ref a), some (.ref p), some (.ref h), some (.ref f), y1, y2, none, none] ∧ Same H3 H')
    ⟨none, none, rfl, Same.refl H3⟩ ?_ ?_⟩
  · intro i σ H' hi hh
    obtain ⟨y1, y2, rfl, sm⟩ := hh
    rw [rlen] at hi
    have hi : i < fs.length := by omega
    have gi : fs[i]? = some fs[i] := List.getElem?_eq_getElem hi
    obtain ⟨m, hm, em⟩ := hF.2.get gi
    have hmm := List.mem_of_getElem? hm
    obtain ⟨hm1, hm2⟩ := hset m hmm
    have hml := hm1.len
    have em' := sm _ _ em
    have eF' := sm _ _ hF.1
    have ep' := sm _ _ ep3
    refine ⟨_, rfl, _, rfl, f, _, _, .ref fs[i], rfl, rfl, sq eF', at_of (j := i) (by omega) (ref_get gi), ?_⟩
    refine ⟨_, rfl, _, .ty "list", .type "list", .type "list", true, rfl, ClsV.ty _, .base (.lst em'), kit_ty (by decide +kernel), true, rfl, ?_⟩
    refine ⟨_, rfl, fs[i], rfl, ⟨_, sq em'⟩, fun D nD => lc_list (K := K) (a := fs[i]) (xs := m.map V.int) (fun j H'' => Same H' H'' ∧ H'' D = some (.lst ((List.replicate j true).map V.bl)))
      ⟨same_new nD _, upd_same⟩ (fun j H'' _ h => sq (h.1 _ _ em')) ?_ ?_⟩
    · intro j x H'' hx hh
      obtain ⟨z, hz, rfl⟩ := get_int hx
      obtain ⟨sm', eD⟩ := hh
      have hjl := (List.getElem?_eq_some_iff.mp hz).1
      refine ⟨rfl, _, rfl, z, rfl, _, eD, by rw [List.length_map, List.length_replicate]; exact smallL (by omega), same_mut sm' nD _, ?_⟩
      rw [upd_same, List.replicate_succ', List.map_append] <;> rfl
    · intro H'' hh
      obtain ⟨sm', eD⟩ := hh
      have smA := sm.trans sm'
      have em2 := sm' _ _ em'
      have ep2' := sm' _ _ ep'
      have eF2 := sm' _ _ eF'
      refine ⟨D, _, rfl, sq eD, ?_⟩
      have hal : (List.replicate (m.map V.int).length true).all id = true := by
        rw [List.all_eq_true]
        intro b hb
        rw [List.eq_of_mem_replicate hb] <;> rfl
      rw [hal]
      -- if len(one) == 0 or not good or turned != piles
      refine ⟨_, rfl, _, rfl, fs[i], _, rfl, .inl (sq em2), rfl, _, rfl, ite2 (fun c => ?_) (fun c => ?_)⟩
      · exact absurd c (by
          have := hm1.ne
          rw [nlen, decide_eq_false (fun e => by have := V.int.inj e; omega)]
          decide)
      refine ⟨_, rfl, fs[i], m, rfl, em2, by omega, fun b H5 hb s5 => ?_⟩
      have hb' : b = true := hb.mpr ⟨hm1.1, by rw [hm1.2]; omega⟩
      subst hb'
      have em5 := s5 _ _ em2
      have ep5 := s5 _ _ ep2'
      have eF5 := s5 _ _ eF2
      refine ⟨_, rfl, _, rfl, fs[i], m, rfl, em5, by omega, fun H6 t s6 nt et => ?_⟩
      have htm : fall (down1 m ++ [(m.length : Int)]) = ps := (turn_eq hm1.1.falls).symm.trans hm2
      rw [htm] at et
      refine ⟨_, rfl, _, _, dp_ints (sq et), dp_ints (sq (s6 _ _ ep5)), sh_ints _, sh_ints _, _, rfl, ite2 (fun c => absurd c (by rw [eqv_ints, decide_eq_true rfl] <;> decide)) (fun _ => ?_)⟩
      have smB := (smA.trans s5).trans s6
      -- if k > 0 and found[k - 1] >= one
      refine ⟨_, rfl, _, _, rfl, rfl, _, rfl, ite2 (fun c => ?_) (fun c => ?_)⟩
      · have c' : (0 : Int) < 0 + (i : Int) := of_decide_eq_true c
        have gq : fs[i - 1]? = some (fs[i - 1]'(by omega)) := List.getElem?_eq_getElem (by omega)
        obtain ⟨m0, hm0, em0⟩ := hF.2.get gq
        have hno : ¬ m ≤ m0 := by
          obtain ⟨a1, a2⟩ := List.getElem?_eq_some_iff.mp hm0
          obtain ⟨b1, b2⟩ := List.getElem?_eq_some_iff.mp hm
          have := List.pairwise_iff_getElem.mp hstrict (i - 1) i a1 b1 (by omega)
          rw [a2, b2] at this
          exact this
        refine ⟨_, rfl, _, rfl, _, _, rfl, rfl, f, _, _, .ref (fs[i - 1]'(by omega)), rfl, rfl, sq (s6 _ _ eF5), at_of (j := i - 1) (by omega) (ref_get gq), _, rfl, fs[i - 1]'(by omega), fs[i], m0, m, rfl, rfl, sq (smB _ _ em0), sq (s6 _ _ em5), ?_⟩
        rw [decide_eq_false hno]
        exact ⟨_, rfl, _, _, rfl, smB⟩
      · exact ⟨_, _, rfl, smB⟩
  · intro σ H' hh
    obtain ⟨y1, y2, rfl, sm⟩ := hh
    -- if len(found) != len(set(..))
    refine ⟨_, rfl, f, _, rfl, .inl (sq (sm _ _ hF.1)), _, rfl, p, rfl, ⟨_, sq (sm _ _ ep3)⟩, fun D nD => lc_list (K := K) (a := p) (xs := ps.map V.int) (fun j H'' => Same H' H'' ∧ IL H'' D ((ps.take j).filter fun z => decide (z ≥ (ps.length : Int) - 1)))
      ⟨same_new nD _, upd_same⟩ (fun j H'' _ h => sq (h.1 _ _ (sm _ _ ep3))) ?_ ?_⟩
    · intro j x H'' hx hh
      obtain ⟨z, hz, rfl⟩ := get_int hx
      obtain ⟨sm', eD⟩ := hh
      have hjl := (List.getElem?_eq_some_iff.mp hz).1
      have hfl' := List.length_filter_le (fun z => decide (z ≥ (ps.length : Int) - 1)) (ps.take j)
      rw [List.length_take] at hfl'
      refine ⟨rfl, _, rfl, _, rfl, p, _, rfl, .inl (sq (sm' _ _ (sm _ _ ep3))), _, _, rfl, rfl, _, _, rfl, rfl, ?_⟩
      rw [take_snoc hz, List.filter_append, List.filter_cons]
      refine ⟨_, rfl, ite2 (fun c => ?_) (fun c => ?_)⟩
      · have c' : ((ps.map V.int).length : Int) - 1 ≤ z := of_decide_eq_true c
        rw [nlen] at c'
        rw [if_pos (decide_eq_true c')]
        refine ⟨_, rfl, _, eD, by rw [nlen]; exact smallL (by omega), same_mut sm' nD _, ?_⟩
        show upd _ _ _ _ = _
        rw [upd_same, List.map_append] <;> rfl
      · have c' : ¬ ((ps.map V.int).length : Int) - 1 ≤ z := fun h => c (decide_eq_true h)
        rw [nlen] at c'
        rw [if_neg (by simp only [decide_eq_true_eq]; exact c')]
        exact ⟨sm', by rw [List.filter_nil, List.append_nil]; exact eD⟩
    · intro H'' hh
      obtain ⟨sm', eD⟩ := hh
      rw [nlen, List.take_length] at eD
      have hfl' := List.length_filter_le (fun z => decide (z ≥ (ps.length : Int) - 1)) ps
      refine ⟨D, _, rfl, sq eD, by omega, ?_⟩
      rw [elders_count hps.1.falls]
      refine ⟨rfl, _, rfl, ite2 (fun c => absurd c (by rw [rlen, hfl, hMl, decide_eq_true rfl] <;> decide)) (fun _ => ?_)⟩
      have smA := sm.trans sm'
      have ep4 := smA _ _ ep3
      -- if piles not in elders_of(turned(list(piles)))
      refine ⟨_, rfl, _, rfl, p, _, rfl, .inl (sq ep4), fun c nc => ?_⟩
      have s1 := same_new nc (.lst (ps.map V.int))
      refine ⟨c, _, rfl, upd_same, hps.1, by rw [hps.2]; omega, fun H5 t s2 nt et => ?_⟩
      have hts := turn_set hps
      have htl := hts.len
      refine ⟨t, _, n, rfl, et, hts, by omega, fun NS hNS hNR H6 g gs s3 ng ngs hG => ?_⟩
      have smB := (s1.trans s2).trans s3
      have ep6 := smB _ _ ep4
      refine ⟨toD ps, NS.map toD, dp_ints (sq ep6), dp_ll hG, sh_ints _, sh_lls _, _, rfl, ite2 (fun c => ?_) (fun _ => ?_)⟩
      · rw [any_lls, decide_eq_true (hNS.mem_iff.mpr (elders_turn hps))] at c
        cases c
      have smC := smA.trans smB
      have eF6 := smC _ _ hF.1
      have hF6 : LLs H6 fs MS := hF.2.same smC
      have eh6 := smC _ _ eh3
      -- kept = [list(one) for one in found]
      refine ⟨_, rfl, f, rfl, ⟨_, sq eF6⟩, fun D2 nD2 => lc_list (K := K) (a := f) (xs := fs.map V.ref) (fun j H'' => Same H6 H'' ∧ ∃ ks : List Addr, H'' D2 = some (.lst (ks.map V.ref)) ∧ LLs H'' ks (MS.take j) ∧ ∀ x ∈ ks, H6 x = none ∧ x ≠ D2)
        ⟨same_new nD2 _, [], upd_same, trivial, fun x hx => by cases hx⟩ (fun j H'' _ h => sq (h.1 _ _ eF6)) ?_ ?_⟩
      · intro j x H7 hx hh
        obtain ⟨r, hr', rfl⟩ := get_ref hx
        obtain ⟨sm7, ks, eD2, hK, hks⟩ := hh
        obtain ⟨m, hm, er⟩ := hF6.get hr'
        have hkl := hK.len
        rw [List.length_take] at hkl
        refine ⟨rfl, _, rfl, r, _, rfl, .inl (sq (sm7 _ _ er)), fun c nc => ?_⟩
        have s8 := same_new nc (.lst (m.map V.int))
        have ncD : c ≠ D2 := (ne_of_none eD2 nc).symm
        refine ⟨_, s8 _ _ eD2, by rw [rlen]; exact smallL (by omega), same_mut (sm7.trans s8) nD2 _, ks ++ [c], by rw [upd_same, List.map_append] <;> rfl, ?_, fun x hx => ?_⟩
        · rw [take_snoc hm]
          refine LLs.upd (fun x hx => ?_) ((hK.same s8).app ⟨upd_same, trivial⟩)
          rcases List.mem_append.mp hx with hx | hx
          · exact (hks x hx).2
          · rw [List.mem_singleton.mp hx]
            exact ncD
        · rcases List.mem_append.mp hx with hx | hx
          · exact hks x hx
          · rw [List.mem_singleton.mp hx]
            exact ⟨sm7.free nc, ncD⟩
      · intro H7 hh
        obtain ⟨sm7, ks, eD2, hK, hks⟩ := hh
        rw [rlen, hfl, List.take_length] at hK
        have hkl := hK.len
        have hel := eldersTo_len ps ps.length
        -- for one in found: one.append(1)
        refine ⟨_, rfl, f, rfl, ⟨_, sq (sm7 _ _ eF6)⟩, for_list (K := K) (a := f) (xs := fs.map V.ref) (fun j σ H8 => ∃ y : Option V, σ = [some (.ref a), some (.ref p), some (.ref h), some (.ref f), y1, y, none, some (.ref D2)] ∧
            H8 f = some (.lst (fs.map V.ref)) ∧ IL H8 h ps ∧ LL H8 D2 ks MS ∧ ∀ x ∈ fs, ∃ xs, H8 x = some (.lst xs) ∧ xs.length ≤ 200 + j)
          ⟨_, rfl, sm7 _ _ eF6, sm7 _ _ eh6, ⟨eD2, hK⟩, fun x hx => ?_⟩ (fun j σ H8 _ h => by obtain ⟨_, _, e, _⟩ := h; exact sq e) ?_ ?_⟩
        · obtain ⟨m, hm, em⟩ := hF6.in_ hx
          exact ⟨_, sm7 _ _ em, by have := (hset m hm).1.len; rw [nlen]; omega⟩
        · intro j x σ H8 hx hh
          obtain ⟨r, hr', rfl⟩ := get_ref hx
          obtain ⟨y, rfl, eF8, eh8, ⟨eD8, hK8⟩, hfs⟩ := hh
          have hrm := List.mem_of_getElem? hr'
          have hjl := (List.getElem?_eq_some_iff.mp hr').1
          obtain ⟨m, hm, em⟩ := hF6.in_ hrm
          obtain ⟨xs, exs, hxs⟩ := hfs r hrm
          have nrf : f ≠ r := ref_ne_int eF6 em (List.length_pos_of_mem hrm)
          have nrh : h ≠ r := ne_of_none eh (nfs r hrm)
          have nrD : D2 ≠ r := (ne_of_none em nD2).symm
          have nrk : ∀ x ∈ ks, x ≠ r := fun x hx => (ne_of_none em (hks x hx).1).symm
          refine ⟨_, rfl, .inl ⟨rfl, _, sq exs⟩, r, xs, _, rfl, rfl, exs, smallL (by omega), _, rfl, by rw [upd_ne nrf]; exact eF8, by show upd _ _ _ _ = _; rw [upd_ne nrh]; exact eh8, ⟨by rw [upd_ne nrD]; exact eD8, hK8.upd nrk⟩, fun x hx => ?_⟩
          by_cases e : x = r
          · subst e
            exact ⟨_, upd_same, by rw [List.length_append, List.length_singleton]; omega⟩
          · obtain ⟨xs', e', l'⟩ := hfs x hx
            exact ⟨xs', by rw [upd_ne e]; exact e', by omega⟩
        · intro σ H8 hh
          obtain ⟨y, rfl, eF8, eh8, ⟨eD8, hK8⟩, hfs⟩ := hh
          -- found.append([])
          refine ⟨_, rfl, .inl ⟨rfl, _, sq eF8⟩, (by show 0 ≤ sizeLine; decide), fun o no => ?_⟩
          have s9 := same_new no (.lst ([] : List V))
          refine ⟨f, _, _, rfl, rfl, s9 _ _ eF8, by rw [rlen]; exact smallL (by omega), ?_⟩
          have nfh : h ≠ f := ne_of_none eh nf
          have nfD : D2 ≠ f := (ne_of_none eF6 nD2).symm
          have nfk : ∀ x ∈ ks, x ≠ f := fun x hx => (ne_of_none eF6 (hks x hx).1).symm
          refine ⟨_, rfl, h, ps, n, rfl, by show upd _ _ _ _ = _; rw [upd_ne nfh]; exact s9 _ _ eh8, hps, by omega, fun NS2 hN2 hR2 H9 u us s10 nu nus hU => ?_⟩
          rw [rise_unique (hN2.trans hMS.symm) hR2 hRs] at hU
          refine ⟨_, rfl, _, _, dp_ll hU, dp_ll ⟨s10 _ _ (by rw [upd_ne nfD]; exact s9 _ _ eD8), ((hK8.same s9).upd nfk).same s10⟩, sh_lls _, sh_lls _, ?_⟩
          rw [eqv_lls, decide_eq_true rfl]
          exact q _

end

/-! ### the head: facts by names, the run -/
def dd_is_setting : He.DefD := ⟨("is_setting", none), "is_setting", "is_setting", defArgs s_is_setting, defBody s_is_setting, defScope s_is_setting, [], []⟩
def dd_must_be : He.DefD := ⟨("must_be", none), "must_be", "must_be", defArgs s_must_be, defBody s_must_be, defScope s_must_be, [], []⟩
def dd_turned_by : He.DefD := ⟨("turned_by", none), "turned_by", "turned_by", defArgs s_turned_by, defBody s_turned_by, defScope s_turned_by, [], []⟩
def dd_turned : He.DefD := ⟨("turned", none), "turned", "turned", defArgs s_turned, defBody s_turned, defScope s_turned, [], []⟩
def dd_elder_by : He.DefD := ⟨("elder_by", none), "elder_by", "elder_by", defArgs s_elder_by, defBody s_elder_by, defScope s_elder_by, [], []⟩
def dd_elders_of : He.DefD := ⟨("elders_of", none), "elders_of", "elders_of", defArgs s_elders_of, defBody s_elders_of, defScope s_elders_of, [], []⟩
def dd_law_cell : He.DefD := ⟨("_law_cell", none), "_law_cell", "_law_cell", defArgs s_law_cell, defBody s_law_cell, defScope s_law_cell, [], []⟩
def dd_law_whole : He.DefD := ⟨("_law_whole", none), "_law_whole", "_law_whole", defArgs s_law_whole, defBody s_law_whole, defScope s_law_whole, [], []⟩
def dd_law_next : He.DefD := ⟨("_law_next", none), "_law_next", "_law_next", defArgs s_law_next, defBody s_law_next, defScope s_law_next, [], []⟩
def dd_law_fallen : He.DefD := ⟨("_law_fallen", none), "_law_fallen", "_law_fallen", defArgs s_law_fallen, defBody s_law_fallen, defScope s_law_fallen, [], []⟩
def dd_law_turned : He.DefD := ⟨("_law_turned", none), "_law_turned", "_law_turned", defArgs s_law_turned, defBody s_law_turned, defScope s_law_turned, [], []⟩
def dd_law_stair : He.DefD := ⟨("_law_stair", none), "_law_stair", "_law_stair", defArgs s_law_stair, defBody s_law_stair, defScope s_law_stair, [], []⟩
def dd_law_by_marks : He.DefD := ⟨("_law_by_marks", none), "_law_by_marks", "_law_by_marks", defArgs s_law_by_marks, defBody s_law_by_marks, defScope s_law_by_marks, [], []⟩
def dd_law_drawn_marks : He.DefD := ⟨("_law_drawn_marks", none), "_law_drawn_marks", "_law_drawn_marks", defArgs s_law_drawn_marks, defBody s_law_drawn_marks, defScope s_law_drawn_marks, [], []⟩
def dd_law_elder : He.DefD := ⟨("_law_elder", none), "_law_elder", "_law_elder", defArgs s_law_elder, defBody s_law_elder, defScope s_law_elder, [], []⟩
def dd_law_drawn_piles : He.DefD := ⟨("_law_drawn_piles", none), "_law_drawn_piles", "_law_drawn_piles", defArgs s_law_drawn_piles, defBody s_law_drawn_piles, defScope s_law_drawn_piles, [], []⟩
def dd_law_setting : He.DefD := ⟨("_law_setting", none), "_law_setting", "_law_setting", defArgs s_law_setting, defBody s_law_setting, defScope s_law_setting, [], []⟩
def dd_law_good : He.DefD := ⟨("_law_good", none), "_law_good", "_law_good", defArgs s_law_good, defBody s_law_good, defScope s_law_good, [], []⟩
def dd_law : He.DefD := ⟨("law", none), "law", "law", defArgs s_law, defBody s_law, defScope s_law, [], []⟩
def fn : List He.DefD := [dd_is_setting, dd_must_be, dd_turned_by, dd_turned, dd_elder_by, dd_elders_of, dd_law_cell, dd_law_whole, dd_law_next, dd_law_fallen, dd_law_turned, dd_law_stair, dd_law_by_marks, dd_law_drawn_marks, dd_law_elder, dd_law_drawn_piles, dd_law_setting, dd_law_good, dd_law]
def fa : List He.Fa := [.glo "is_setting", .glo "must_be", .glo "turned_by", .glo "turned", .glo "elder_by", .glo "elders_of", .glo "_law_cell", .glo "_law_whole", .glo "_law_next", .glo "_law_fallen", .glo "_law_turned", .glo "_law_stair", .glo "_law_by_marks", .glo "_law_drawn_marks", .glo "_law_elder", .glo "_law_drawn_piles", .glo "_law_setting", .glo "_law_good", .glo "law", .int "MOST" 100, .free "all", .free "bool", .free "int", .free "isinstance", .free "len", .free "list", .free "min", .free "range", .free "reversed", .free "set", .free "sorted", .free "sum"]
abbrev R : PySem.W.OpenRow := PySem.W.OpenLaw.row PySem.Challenge.rw_pilewheel_k12_whole_elders
abbrev hk : PySem.W.Hook := He.hookD 4 fa fn
def ob (s : PySem.W.SharedT) : He.AlD := He.obsDG 4 fa fn (HandSHeadRun.getT s)
theorem ob_eq (s : PySem.W.SharedT) : ob s = hk.obs s.abs := He.obsDG_eq (HandSHeadRun.getT_eq s)
def loose : List PySem.Str := ["PileError", "NoPiles", "is_setting", "must_be", "turned_by", "turned", "elder_by", "elders_of", "_law_cell", "_law_whole", "_law_next", "_law_fallen", "_law_turned", "_law_stair", "_law_by_marks", "_law_drawn_marks", "_law_elder", "_law_drawn_piles", "_law_setting", "_law_good", "MOST"]
theorem run (w : World) : HandSHeadRun.RunEq R (PySem.W.view R.prog [25]) hk ob 4000 loose w := by
  intro os
  kernel_rfl
theorem facts {P : Program} {w : World} {K : PySem.W.Frag} {h : Heap} {mg : Str → Option Value} {f : Addr} (X : K.In h) (G : h.Ns mainGlobals mg) (hfa : mg ("law" : Str) = some (.ref f)) (c : He.SaysD fa fn K) :
    ∃ fd : FuncData, (∀ (s : Shared) (v : Value), BindsTo s fd ⟨[v], []⟩ [("script", v)]) ∧ ∀ base : Heap, K.In base → base.Ns mainGlobals mg → FnOk P w K mg base CX0 4 f fd ["script"] (spLaw K) := by
  have T : Txt K mg := {
      d_is_setting := by
        obtain ⟨fd, F⟩ := c.def_ 0 (d := dd_is_setting) rfl
        exact ⟨fd, F, He.glo_ok X G (c.fact 0 (f := .glo "is_setting") rfl)⟩,
      d_must_be := by
        obtain ⟨fd, F⟩ := c.def_ 1 (d := dd_must_be) rfl
        exact ⟨fd, F, He.glo_ok X G (c.fact 1 (f := .glo "must_be") rfl)⟩,
      d_turned_by := by
        obtain ⟨fd, F⟩ := c.def_ 2 (d := dd_turned_by) rfl
        exact ⟨fd, F, He.glo_ok X G (c.fact 2 (f := .glo "turned_by") rfl)⟩,
      d_turned := by
        obtain ⟨fd, F⟩ := c.def_ 3 (d := dd_turned) rfl
        exact ⟨fd, F, He.glo_ok X G (c.fact 3 (f := .glo "turned") rfl)⟩,
      d_elder_by := by
        obtain ⟨fd, F⟩ := c.def_ 4 (d := dd_elder_by) rfl
        exact ⟨fd, F, He.glo_ok X G (c.fact 4 (f := .glo "elder_by") rfl)⟩,
      d_elders_of := by
        obtain ⟨fd, F⟩ := c.def_ 5 (d := dd_elders_of) rfl
        exact ⟨fd, F, He.glo_ok X G (c.fact 5 (f := .glo "elders_of") rfl)⟩,
      d_law_cell := by
        obtain ⟨fd, F⟩ := c.def_ 6 (d := dd_law_cell) rfl
        exact ⟨fd, F, He.glo_ok X G (c.fact 6 (f := .glo "_law_cell") rfl)⟩,
      d_law_whole := by
        obtain ⟨fd, F⟩ := c.def_ 7 (d := dd_law_whole) rfl
        exact ⟨fd, F, He.glo_ok X G (c.fact 7 (f := .glo "_law_whole") rfl)⟩,
      d_law_next := by
        obtain ⟨fd, F⟩ := c.def_ 8 (d := dd_law_next) rfl
        exact ⟨fd, F, He.glo_ok X G (c.fact 8 (f := .glo "_law_next") rfl)⟩,
      d_law_fallen := by
        obtain ⟨fd, F⟩ := c.def_ 9 (d := dd_law_fallen) rfl
        exact ⟨fd, F, He.glo_ok X G (c.fact 9 (f := .glo "_law_fallen") rfl)⟩,
      d_law_turned := by
        obtain ⟨fd, F⟩ := c.def_ 10 (d := dd_law_turned) rfl
        exact ⟨fd, F, He.glo_ok X G (c.fact 10 (f := .glo "_law_turned") rfl)⟩,
      d_law_stair := by
        obtain ⟨fd, F⟩ := c.def_ 11 (d := dd_law_stair) rfl
        exact ⟨fd, F, He.glo_ok X G (c.fact 11 (f := .glo "_law_stair") rfl)⟩,
      d_law_by_marks := by
        obtain ⟨fd, F⟩ := c.def_ 12 (d := dd_law_by_marks) rfl
        exact ⟨fd, F, He.glo_ok X G (c.fact 12 (f := .glo "_law_by_marks") rfl)⟩,
      d_law_drawn_marks := by
        obtain ⟨fd, F⟩ := c.def_ 13 (d := dd_law_drawn_marks) rfl
        exact ⟨fd, F, He.glo_ok X G (c.fact 13 (f := .glo "_law_drawn_marks") rfl)⟩,
      d_law_elder := by
        obtain ⟨fd, F⟩ := c.def_ 14 (d := dd_law_elder) rfl
        exact ⟨fd, F, He.glo_ok X G (c.fact 14 (f := .glo "_law_elder") rfl)⟩,
      d_law_drawn_piles := by
        obtain ⟨fd, F⟩ := c.def_ 15 (d := dd_law_drawn_piles) rfl
        exact ⟨fd, F, He.glo_ok X G (c.fact 15 (f := .glo "_law_drawn_piles") rfl)⟩,
      d_law_setting := by
        obtain ⟨fd, F⟩ := c.def_ 16 (d := dd_law_setting) rfl
        exact ⟨fd, F, He.glo_ok X G (c.fact 16 (f := .glo "_law_setting") rfl)⟩,
      d_law_good := by
        obtain ⟨fd, F⟩ := c.def_ 17 (d := dd_law_good) rfl
        exact ⟨fd, F, He.glo_ok X G (c.fact 17 (f := .glo "_law_good") rfl)⟩,
      c_MOST := by
        obtain ⟨t, e⟩ := He.int_ok X G (c.fact 19 (f := .int "MOST" 100) rfl)
        exact ⟨_, e, t, rfl⟩,
      m_all := He.free_ok X G (c.fact 20 (f := .free "all") rfl),
      m_bool := He.free_ok X G (c.fact 21 (f := .free "bool") rfl),
      m_int := He.free_ok X G (c.fact 22 (f := .free "int") rfl),
      m_isinstance := He.free_ok X G (c.fact 23 (f := .free "isinstance") rfl),
      m_len := He.free_ok X G (c.fact 24 (f := .free "len") rfl),
      m_list := He.free_ok X G (c.fact 25 (f := .free "list") rfl),
      m_min := He.free_ok X G (c.fact 26 (f := .free "min") rfl),
      m_range := He.free_ok X G (c.fact 27 (f := .free "range") rfl),
      m_reversed := He.free_ok X G (c.fact 28 (f := .free "reversed") rfl),
      m_set := He.free_ok X G (c.fact 29 (f := .free "set") rfl),
      m_sorted := He.free_ok X G (c.fact 30 (f := .free "sorted") rfl),
      m_sum := He.free_ok X G (c.fact 31 (f := .free "sum") rfl) }
  obtain ⟨fd, F⟩ := c.def_ 18 (d := dd_law) rfl
  have e := hfa.symm.trans (He.glo_ok X G (c.fact 18 (f := .glo "law") rfl))
  cases e
  have b := FunD.bindsA (ps := ["script"]) F fun _ _ _ _ _ _ us hl => match us, hl with | [_], _ => rfl
  exact ⟨fd, fun s v => b s [v] rfl, fun base _ _ => ok_law_at T F⟩

end PW
open PySem PySem.W PySem.Calls PyProof.Rows
set_option maxRecDepth 100000 in
set_option maxHeartbeats 0 in
theorem PySem.Challenge.cw_pilewheel_k12_whole_elders_holds : PySem.Challenge.rw_pilewheel_k12_whole_elders.Holds := by
  w_on; o_law
  refine HandSHeadRun.head_any (r := OpenLaw.row PySem.Challenge.rw_pilewheel_k12_whole_elders) (q := view (OpenLaw.row PySem.Challenge.rw_pilewheel_k12_whole_elders).prog [25]) (H := PW.hk) (ob := PW.ob) (M := 4000) (loose := PW.loose) (d := HandSHeadRun.topDef (OpenLaw.row PySem.Challenge.rw_pilewheel_k12_whole_elders).prog 25) (kwd := []) PW.ob_eq
    (by kernel_rfl) (fun s => by kernel_rfl) PW.run (by kernel_rfl) (by kernel_rfl) (by kernel_rfl) (by rfl) (by first | assumption | decide +kernel) (by decide +kernel) ⟨rfl, rfl, rfl, rfl, rfl, by decide +kernel⟩ ?hw ?hc
  case hw => w_witness2
  case hc =>
    refine L2.walk_ofE (l := PySem.Challenge.rw_pilewheel_k12_whole_elders) (n := 63) (k := 4) (x := "script") (CX := L2.CX0) rfl (by decide) (by kernel_rfl) ⟨rfl, by decide, by decide⟩ ?F (fun _ _ _ _ z => z)
    intro w mg fa h Y G hmg0
    obtain ⟨K, KX, c⟩ := Y
    have hmg : mg ("law" : PySem.Str) = some (.ref fa) := by
      have e : (HandSHeadRun.topDef (OpenLaw.row PySem.Challenge.rw_pilewheel_k12_whole_elders).prog 25).name = ("law" : PySem.Str) := by kernel_rfl
      rw [← e]
      exact hmg0
    obtain ⟨fd, hb, hF⟩ := PW.facts (P := (PySem.Challenge.rw_pilewheel_k12_whole_elders).prog) (w := w) KX G hmg c
    exact ⟨K, fd, PW.spLaw K, KX, hb, fun H a ns hl _ hS => ⟨a, ns, rfl, hS, hl, fun _ => rfl⟩, hF⟩
