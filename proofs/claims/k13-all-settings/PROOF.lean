import PyProof.Rows.All
import Wide.All
import OpenK.AllK
import Wide.FinOn
import KE.KStateDown
import Lean
import HandS.ForMost
import HandS.Exc
import HandS.More
import HandS.WordsExc
import HandS.Defaults
import HandS.Wide
import HandS.SortInts
import HandS.Rev
import HandS.IsInst
import HandS.Deep
import HandS.Zip
import HandS.Head0
import HandS.Head1
import HandS.Head2
import HandS.HeadEnd
import HandS.HeadHook1
import HandS.HeadHook2
import PySem.Challenge.RW_pilewheel_k13_all_settings
set_option Elab.async false
set_option linter.all false
set_option maxRecDepth 100000
set_option maxHeartbeats 4000000
namespace PW
open PySem PySem.Spec PyProof.Rows L2

/-! ### a def that may be called -/
structure Cal (P : Program) (w : World) (K : PySem.W.Frag) (mg : Str → Option Value) (base : Heap) (CX : CXT) (k : Nat) (x : Str) (ps : List Str) (sp : Sp) : Prop where
  ex : ∃ (f : Addr) (fd : FuncData), FnOk P w K mg base CX k f fd ps sp ∧ mg x = some (.ref f) ∧ PySem.W.keepIn K (.ref f) = true ∧ Binds K fd ps []
def DefAt (K : PySem.W.Frag) (mg : Str → Option Value) (x : Str) (st : Stmt) : Prop :=
  ∃ fd, FunD K x x (defArgs st) (defBody st) (defScope st) [] [] (He.ga K x) fd ∧ mg x = some (.ref (He.ga K x))
theorem pe_callF {X : Cx} {k : Nat} {x : Str} {ps : List Str} {sp : Sp} {e : Expr} {es : List Expr} {t : TA} {p pos : Pos} (C : Cal X.prog X.w X.K X.mg X.base CX0 k x ps sp) (hr : Room k X.A) (ha : PA X (e :: es) t) (hg : Gl X x := by rfl)
    (hdb : (x == ("__debug__" : Str)) = false := by decide) (he : starEach (e :: es) X.env = (false, eval e X.env) :: starEach es X.env := by rfl) (hpl : (backTo pos (starEach es X.env)).any (·.1) = false := by rfl) :
    PE X (.Call (.Name x p) (e :: es) [] pos) (tCall sp [] E0 t) := by
  obtain ⟨f, fd, F, hm, hk, hb⟩ := C.ex
  exact pe_call F hr hg hm hk hb .nil pass0 ha hdb he hpl
theorem pe_globX {X : Cx} {x : Str} {v : V} {pos : Pos} (h : ∃ u, X.mg x = some u ∧ RelV v u) (hg : Gl X x := by rfl) (hd : (x == ("__debug__" : Str)) = false := by decide) : PE X (.Name x pos) (tC v) := by
  obtain ⟨u, hm, r⟩ := h
  exact pe_glob hg hm r hd
theorem cal_mk {P : Program} {w : World} {K : PySem.W.Frag} {mg : Str → Option Value} {base : Heap} {x : Str} {st : Stmt} {N ps : List Str} {k : Nat} {sp : Sp} (D : DefAt K mg x st) (S : FnScope N ps (defScope st)) (len : ∀ vs H Q E, sp vs H Q E → vs.length = ps.length)
    (hb : ∀ (kV doc pm : Value) (an : Option Addr) (cdv ct : Value) (us : List Value), us.length = ps.length → bindArgs (PySem.W.fnOf x x (defArgs st) (defBody st) (defScope st) .none kV doc pm an cdv ct) ⟨us, []⟩ = pure (ps.zip us))
    (hbody : ∀ (f : Addr) (cdv : Value) (A : Around) (outer : List Env) (s : Shared) (H : Hp) (vs : List V) (Q : VK) (E : XK), Room k (A.deeper (envOfC x (defScope st) s.heap.objs.size f cdv)) → sp vs H Q E →
      ∃ t, PSs (cxOf CX0 P w K mg base N x (defScope st) f cdv A outer s H E).nox (defBody st) t ∧ t { nx := fun _ H' => Q .non H', rt := Q } (start N vs) H) : Cal P w K mg base CX0 (k + 1) x ps sp := by
  obtain ⟨fd, F, g⟩ := D
  refine ⟨⟨_, fd, F.ok S len (fun cdv A outer s H vs Q E hr h => ?_), g, F.kp, F.bindsN hb⟩⟩
  obtain ⟨t, h1, h2⟩ := hbody _ cdv A outer s H vs Q E hr h
  exact ⟨t, h1.nox, h2⟩
/-! ### heaps -/
theorem same_new {H : Hp} {p : Addr} (h : H p = none) (o : HO) : Same H (upd H p o) := fun b u q => by rw [upd_ne (ne_of_none q h)]; exact q
theorem same_mut {H H' : Hp} {p : Addr} (e : Same H H') (h : H p = none) (o : HO) : Same H (upd H' p o) := fun b u q => by
  rw [upd_ne (ne_of_none q h)]
  exact e b u q
theorem small {n : Nat} (h : n ≤ 100000) : n ≤ sizeLine := Nat.le_trans h (by decide)
theorem smallL {n : Nat} (h : n ≤ 100000) : n < sizeLine := Nat.lt_of_le_of_lt h (by decide)
/-- a list of ints that may be changed; the script -/
abbrev IL (H : Hp) (a : Addr) (ns : List Int) : Prop := H a = some (.lst (ns.map V.int))
abbrev SL (K : PySem.W.Frag) (H : Hp) (a : Addr) (ns : List Int) : Prop := SqL K H a (ns.map V.int)
/-- a new list of ints -/
abbrev NL (Q : VK) (H : Hp) (ns : List Int) : Prop := ∀ (H' : Hp) (p : Addr), Same H H' → H p = none → IL H' p ns → Q (.ref p) H'
theorem sq {K : PySem.W.Frag} {H : Hp} {a : Addr} {xs : List V} (h : H a = some (.lst xs)) : SqL K H a xs := .inl (.inl h)
theorem nlen {ns : List Int} : (ns.map V.int).length = ns.length := List.length_map _
theorem take_snoc {α : Type} {l : List α} {i : Nat} {x : α} (h : l[i]? = some x) : l.take (i + 1) = l.take i ++ [x] := by
  rw [List.take_add_one, h] <;> rfl
theorem cut_to (xs : List V) {j : Nat} (h : j ≤ xs.length) : cutV xs none (some (j : Int)) = xs.take j := by
  unfold cutV
  rw [HT.sIx_none, HT.sIx_nat, Nat.min_eq_left h] <;> rfl
theorem cut_from (xs : List V) {j : Nat} (h : j ≤ xs.length) : cutV xs (some (j : Int)) none = xs.drop j := by
  unfold cutV
  rw [HT.sIx_none, HT.sIx_nat, Nat.min_eq_left h]
  exact List.take_of_length_le (by rw [List.length_drop]; exact Nat.le_refl _)
theorem get_int {ns : List Int} {i : Nat} {x : V} (h : (ns.map V.int)[i]? = some x) : ∃ z, ns[i]? = some z ∧ x = .int z := by
  rw [List.getElem?_map] at h
  cases e : ns[i]? with
  | none => rw [e] at h; cases h
  | some z => rw [e] at h; exact ⟨z, rfl, (Option.some.inj h).symm⟩
theorem int_get {ns : List Int} {i : Nat} {z : Int} (h : ns[i]? = some z) : (ns.map V.int)[i]? = some (.int z) := by
  rw [List.getElem?_map, h] <;> rfl
/-- list(reversed(e)), e a list -/
def tListRev (K : PySem.W.Frag) (te : TE) : TE := fun σ H Q => te σ H fun v H1 => ∃ (a : Addr) (xs : List V), v = .ref a ∧ SqL K H1 a xs ∧ ∀ q, H1 q = none → Q (.ref q) (upd H1 q (.lst xs.reverse))
/-! ### rules within a comprehension: the written part by name -/
theorem ix_listK {X : Cx} (K : PySem.W.Frag) (h : X.K = K := by rfl) : IxR X (rIxL K) := by
  subst h
  exact ix_list
theorem call_len_seqK {X : Cx} (K : PySem.W.Frag) (h : X.K = K := by rfl) : CallR X (.builtin "len") (fun xs H Q => ∃ p ys, xs = [.ref p] ∧ (SqL K H p ys ∨ SqT K H p ys) ∧ Q (.int ys.length) H) := by
  subst h
  exact call_len_seq
theorem op_in_seqK {X : Cx} (K : PySem.W.Frag) (h : X.K = K := by rfl) : OpR X (compareOp .In) (rIn K false) := by
  subst h
  exact op_in_seq
theorem op_notIn_seqK {X : Cx} (K : PySem.W.Frag) (h : X.K = K := by rfl) : OpR X (compareOp .NotIn) (rIn K true) := by
  subst h
  exact op_notIn_seq
theorem sl_listK {X : Cx} (K : PySem.W.Frag) (h : X.K = K := by rfl) : SlR X (rSlL K) := by
  subst h
  exact sl_list

/-! ### lists of lists -/
def LLs (H : Hp) : List Addr → List (List Int) → Prop
  | [], [] => True
  | a :: as, n :: ns => IL H a n ∧ LLs H as ns
  | _, _ => False
theorem LLs.same {H H' : Hp} (e : Same H H') : ∀ {as : List Addr} {ns : List (List Int)}, LLs H as ns → LLs H' as ns
  | [], [], _ => trivial
  | _ :: _, _ :: _, h => ⟨e _ _ h.1, h.2.same e⟩
  | [], _ :: _, h => h.elim
  | _ :: _, [], h => h.elim
theorem LLs.upd {H : Hp} {p : Addr} {o : HO} : ∀ {as : List Addr} {ns : List (List Int)}, (∀ a ∈ as, a ≠ p) → LLs H as ns → LLs (upd H p o) as ns
  | [], [], _, _ => trivial
  | a :: _, _ :: _, hn, h => ⟨by show L2.upd _ _ _ _ = _; rw [upd_ne (hn a (List.mem_cons_self ..))]; exact h.1, h.2.upd fun b hb => hn b (List.mem_cons_of_mem _ hb)⟩
  | [], _ :: _, _, h => h.elim
  | _ :: _, [], _, h => h.elim
theorem LLs.len {H : Hp} : ∀ {as : List Addr} {ns : List (List Int)}, LLs H as ns → as.length = ns.length
  | [], [], _ => rfl
  | _ :: _, _ :: _, h => congrArg (· + 1) h.2.len
  | [], _ :: _, h => h.elim
  | _ :: _, [], h => h.elim
theorem LLs.get {H : Hp} : ∀ {as : List Addr} {ns : List (List Int)} {i : Nat} {a : Addr}, LLs H as ns → as[i]? = some a → ∃ n, ns[i]? = some n ∧ IL H a n
  | [], [], _, _, _, h => by simp at h
  | b :: _, m :: _, 0, a, h, e => by
    have : b = a := Option.some.inj e
    subst this
    exact ⟨m, rfl, h.1⟩
  | _ :: _, _ :: _, i + 1, a, h, e => LLs.get (i := i) h.2 e
  | [], _ :: _, _, _, h, _ => h.elim
  | _ :: _, [], _, _, h, _ => h.elim
theorem LLs.app {H : Hp} : ∀ {as bs : List Addr} {ns ms : List (List Int)}, LLs H as ns → LLs H bs ms → LLs H (as ++ bs) (ns ++ ms)
  | [], _, [], _, _, g => g
  | _ :: _, _, _ :: _, _, h, g => ⟨h.1, h.2.app g⟩
  | [], _, _ :: _, _, h, _ => h.elim
  | _ :: _, _, [], _, h, _ => h.elim
theorem LLs.in_ {H : Hp} : ∀ {as : List Addr} {ns : List (List Int)} {a : Addr}, LLs H as ns → a ∈ as → ∃ n, n ∈ ns ∧ IL H a n := fun h ha => by
  obtain ⟨i, hi⟩ := List.getElem?_of_mem ha
  obtain ⟨n, e, q⟩ := h.get hi
  exact ⟨n, List.mem_of_getElem? e, q⟩
/-- a list of lists -/
def LL (H : Hp) (a : Addr) (as : List Addr) (ns : List (List Int)) : Prop := H a = some (.lst (as.map V.ref)) ∧ LLs H as ns
/-- a new list of new lists -/
abbrev NLL (Q : VK) (H : Hp) (ns : List (List Int)) : Prop := ∀ (H' : Hp) (p : Addr) (as : List Addr), Same H H' → H p = none → (∀ a ∈ as, H a = none) → LL H' p as ns → Q (.ref p) H'
theorem get_ref {as : List Addr} {i : Nat} {x : V} (h : (as.map V.ref)[i]? = some x) : ∃ z, as[i]? = some z ∧ x = .ref z := by
  rw [List.getElem?_map] at h
  cases e : as[i]? with
  | none => rw [e] at h; cases h
  | some z => rw [e] at h; exact ⟨z, rfl, (Option.some.inj h).symm⟩
theorem ref_get {as : List Addr} {i : Nat} {z : Addr} (h : as[i]? = some z) : (as.map V.ref)[i]? = some (.ref z) := by
  rw [List.getElem?_map, h] <;> rfl
theorem rlen {as : List Addr} : (as.map V.ref).length = as.length := List.length_map _
theorem two_pow_small {c : Nat} (h : c ≤ 20) : 2 ^ c ≤ 1048576 := Nat.pow_le_pow_right (by decide) h
theorem smallM {n : Nat} (h : n ≤ 1048576) : n < sizeLine := Nat.lt_of_le_of_lt h (by decide)

/-! ### all settings of c coins with no pile above m, from the greatest down; f calls are allowed -/
/-- the first i groups, the greatest pile first -/
def groups (g : Nat → List (List Int)) (M : Nat) : Nat → List (List Int)
  | 0 => []
  | i + 1 => groups g M i ++ (g (M - i)).map (((M - i : Nat) : Int) :: ·)
def parts : Nat → Nat → Nat → List (List Int)
  | 0, c, _ => if c = 0 then [[]] else []
  | f + 1, c, m => if c = 0 then [[]] else groups (fun p => parts f (c - p) p) (min c m) (min c m)
theorem groups_len {g : Nat → List (List Int)} {M c : Nat} (hM : M ≤ c) (hg : ∀ p, 1 ≤ p → p ≤ M → (g p).length ≤ 2 ^ (c - p)) : ∀ i, i ≤ M → (groups g M i).length ≤ 2 ^ (c - M + i)
  | 0, _ => Nat.zero_le _
  | i + 1, h => by
    have ih := groups_len hM hg i (by omega)
    have h1 := hg (M - i) (by omega) (by omega)
    rw [show c - (M - i) = c - M + i by omega] at h1
    unfold groups
    rw [List.length_append, List.length_map, show c - M + (i + 1) = (c - M + i) + 1 by omega, Nat.pow_succ]
    omega
theorem parts_len : ∀ (f c m : Nat), (parts f c m).length ≤ 2 ^ c
  | 0, c, m => by
    unfold parts
    split
    · exact Nat.one_le_two_pow
    · exact Nat.zero_le _
  | f + 1, c, m => by
    unfold parts
    split
    · exact Nat.one_le_two_pow
    · have := groups_len (g := fun p => parts f (c - p) p) (M := min c m) (c := c) (by omega) (fun p _ _ => parts_len f (c - p) p) (min c m) (Nat.le_refl _)
      rw [show c - min c m + min c m = c by omega] at this
      exact this
theorem groups_mono {g : Nat → List (List Int)} {M : Nat} : ∀ {i j : Nat}, i ≤ j → (groups g M i).length ≤ (groups g M j).length
  | i, 0, h => by
    obtain rfl : i = 0 := by omega
    exact Nat.le_refl _
  | i, j + 1, h => by
    rcases Nat.lt_or_ge i (j + 1) with l | l
    · have := groups_mono (g := g) (M := M) (i := i) (j := j) (by omega)
      show _ ≤ (groups g M j ++ (g (M - j)).map (((M - j : Nat) : Int) :: ·)).length
      rw [List.length_append]
      omega
    · obtain rfl : i = j + 1 := by omega
      exact Nat.le_refl _
theorem parts_ne : ∀ (f c m : Nat), c ≤ f → 1 ≤ m → parts f c m ≠ []
  | 0, c, m, h, _ => by
    obtain rfl : c = 0 := by omega
    intro e
    cases e
  | f + 1, c, m, h, hm => by
    unfold parts
    split
    · intro e
      cases e
    · intro e
      have h1 : (groups (fun p => parts f (c - p) p) (min c m) 1).length ≤ (groups (fun p => parts f (c - p) p) (min c m) (min c m)).length := groups_mono (by omega)
      rw [e] at h1
      have h2 : groups (fun p => parts f (c - p) p) (min c m) 1 = (parts f (c - (min c m - 0)) (min c m - 0)).map (((min c m - 0 : Nat) : Int) :: ·) := rfl
      rw [h2, List.length_map] at h1
      have h3 := List.length_pos_iff.mpr (parts_ne f (c - (min c m - 0)) (min c m - 0) (by omega) (by omega))
      rw [List.length_nil] at h1
      omega
theorem parts_elt : ∀ (f c m : Nat), ∀ ns ∈ parts f c m, ns.length ≤ c
  | 0, c, m, ns, h => by
    unfold parts at h
    split at h
    · rw [List.mem_singleton.mp h]
      exact Nat.zero_le _
    · cases h
  | f + 1, c, m, ns, h => by
    unfold parts at h
    split at h
    · rw [List.mem_singleton.mp h]
      exact Nat.zero_le _
    · have key : ∀ i, i ≤ min c m → ∀ ns ∈ groups (fun p => parts f (c - p) p) (min c m) i, ns.length ≤ c := fun i => by
        induction i with
        | zero => exact fun _ ns h => by cases h
        | succ i ih =>
          intro hi ns h
          rcases List.mem_append.mp h with h | h
          · exact ih (by omega) ns h
          · obtain ⟨ms, hms, rfl⟩ := List.mem_map.mp h
            have := parts_elt f (c - (min c m - i)) (min c m - i) ms hms
            rw [List.length_cons]
            omega
      exact key _ (Nat.le_refl _) ns h

/-! ### the text -/
def top (i : Nat) : Stmt := PySem.Challenge.pw_pilewheel_k13_all_settings.main.body.getD i (.Pass ⟨0, 0, 0, 0⟩)
abbrev s_must_count : Stmt := top 4
abbrev s_settings_by : Stmt := top 5
abbrev s_settings_of : Stmt := top 6
abbrev s_law_cell : Stmt := top 8
abbrev s_law_ints : Stmt := top 9
abbrev s_law_lists_like : Stmt := top 10
abbrev s_law_all : Stmt := top 11
abbrev s_law : Stmt := top 12
structure Txt (K : PySem.W.Frag) (mg : Str → Option Value) : Prop where
  d_must_count : DefAt K mg "must_count" s_must_count
  d_settings_by : DefAt K mg "settings_by" s_settings_by
  d_settings_of : DefAt K mg "settings_of" s_settings_of
  d_law_cell : DefAt K mg "_law_cell" s_law_cell
  d_law_ints : DefAt K mg "_law_ints" s_law_ints
  d_law_lists_like : DefAt K mg "_law_lists_like" s_law_lists_like
  d_law_all : DefAt K mg "_law_all" s_law_all
  m_bool : mg "bool" = none
  m_int : mg "int" = none
  m_isinstance : mg "isinstance" = none
  m_len : mg "len" = none
  m_list : mg "list" = none
  m_min : mg "min" = none
  m_range : mg "range" = none
  m_zip : mg "zip" = none

section
variable {P : Program} {w : World} {K : PySem.W.Frag} {mg : Str → Option Value} {base : Heap}
theorem sc_law_cell : FnScope ["script", "k", "base"] ["script", "k"] (defScope s_law_cell) := ⟨rfl, rfl, rfl, by decide +kernel, rfl, by decide +kernel, by decide +kernel⟩
/-- any number may stand in a cell -/
def sp_law_cell (K : PySem.W.Frag) : Sp := fun vs H Q _ => ∃ (a : Addr) (ns : List Int) (k : Int), vs = [.ref a, .int k] ∧ SL K H a ns ∧ 0 ≤ k ∧ ∀ z, Q (.int z) H
theorem ok_law_cell (T : Txt K mg) : Cal P w K mg base CX0 1 "_law_cell" ["script", "k"] (sp_law_cell K) := by
  refine cal_mk T.d_law_cell sc_law_cell ?_ (fun _ _ _ _ _ _ us hl => match us, hl with | [_, _], _ => rfl) (fun f cdv A outer s H vs Q E hr h => ?_)
  · intro vs H Q E h
    obtain ⟨a, ns, k, rfl, _⟩ := h
    rfl
  obtain ⟨a, ns, k, rfl, hS, h0, q⟩ := h
  refine ⟨_, (pss_cons (ps_if (pt_cmpR op_lt (pv 1) (pe_callB call_len_seq (by rfl) T.m_len PySem.boot_len (pa_cons (pv 0) pa_nil)) (nomark _))
      (pss_one (ps_ret (pe_ix ix_list (pv 0) (pv 1) (fun _ _ => rfl)))) pss_nil)
      (pss_cons (ps_set (i := 2) sc_law_cell.nd rfl (Or.inl rfl) pe_int)
      (pss_cons (ps_if (pt_cmpR op_gt (pe_callB call_len_seq (by rfl) T.m_len PySem.boot_len (pa_cons (pv 0) pa_nil)) pe_int (nomark _))
      (pss_one (ps_set (i := 2) sc_law_cell.nd rfl (Or.inl rfl) (pe_ix ix_list (pv 0) pe_int (fun _ _ => rfl)))) pss_nil)
      (pss_one (ps_ret (pe_op op_mod (pe_op op_add (pe_op op_mul (pe_op op_mod (pv 2) pe_int) pe_int) (pe_op op_mul (pv 1) pe_int)) pe_int)))))), ?_⟩
  refine ⟨_, rfl, _, rfl, a, _, rfl, .inl hS, _, _, rfl, rfl, _, rfl, ite2 (fun c => ?_) (fun c => ?_)⟩
  · have c' : k < ((ns.map V.int).length : Int) := of_decide_eq_true c
    rw [List.length_map] at c'
    obtain ⟨j, rfl⟩ : ∃ j : Nat, k = j := ⟨k.toNat, by omega⟩
    have hj : j < ns.length := by omega
    exact ⟨_, rfl, _, rfl, a, _, _, .int ns[j], rfl, rfl, hS, atI_nat (int_get (List.getElem?_eq_getElem hj)), q _⟩
  · refine ⟨_, rfl, a, _, rfl, .inl hS, _, _, rfl, rfl, _, rfl, ite2 (fun c => ?_) (fun c => ?_)⟩
    · have c' : (0 : Int) < ((ns.map V.int).length : Int) := of_decide_eq_true c
      rw [List.length_map] at c'
      have hj : 0 < ns.length := by omega
      refine ⟨_, rfl, a, _, 0, .int ns[0], rfl, rfl, hS, atI_nat (j := 0) (int_get (List.getElem?_eq_getElem hj)), ?_⟩
      exact ⟨_, rfl, _, _, rfl, rfl, (by show (0 : Int) < 65521; decide), _, _, rfl, rfl, .inr ⟨by decide, by decide⟩, _, rfl, _, _, rfl, rfl, .inr ⟨by decide, by decide⟩, _, _, rfl, rfl, _, _, rfl, rfl, (by show (0 : Int) < 65521; decide), q _⟩
    · exact ⟨_, rfl, _, _, rfl, rfl, (by show (0 : Int) < 65521; decide), _, _, rfl, rfl, .inr ⟨by decide, by decide⟩, _, rfl, _, _, rfl, rfl, .inr ⟨by decide, by decide⟩, _, _, rfl, rfl, _, _, rfl, rfl, (by show (0 : Int) < 65521; decide), q _⟩

end

section
variable {P : Program} {w : World} {K : PySem.W.Frag} {mg : Str → Option Value} {base : Heap}
theorem sc_law_ints : FnScope ["found", "due", "k"] ["found", "due"] (defScope s_law_ints) := ⟨rfl, rfl, rfl, by decide +kernel, rfl, by decide +kernel, by decide +kernel⟩
def sp_law_ints : Sp := fun vs H Q _ => ∃ (f d : Addr) (xs ns : List Int), vs = [.ref f, .ref d] ∧ IL H f xs ∧ IL H d ns ∧ ns.length ≤ 100000 ∧ Q (.bl (decide (xs = ns))) H
theorem ok_law_ints (T : Txt K mg) : Cal P w K mg base CX0 1 "_law_ints" ["found", "due"] sp_law_ints := by
  refine cal_mk T.d_law_ints sc_law_ints ?_ (fun _ _ _ _ _ _ us hl => match us, hl with | [_, _], _ => rfl) (fun f cdv A outer s H vs Q E hr h => ?_)
  · intro vs H Q E h
    obtain ⟨f, d, xs, ns, rfl, _⟩ := h
    rfl
  obtain ⟨f, d, xs, ns, rfl, hF, hD, hl, q⟩ := h
  refine ⟨_, (pss_cons (ps_if (PW.pt (pw_or (pt_not (pt_val (pe_callB call_isi (by rfl) T.m_isinstance (by decide +kernel) (pa_cons (pv 0) (pa_cons (pe_bltn (v := .ty "list") (by rfl) T.m_list (by decide +kernel) rfl) pa_nil))))) (pw_or1 (pt_cmpR op_ne (pe_callB call_len_seq (by rfl) T.m_len PySem.boot_len (pa_cons (pv 0) pa_nil)) (pe_callB call_len_seq (by rfl) T.m_len PySem.boot_len (pa_cons (pv 1) pa_nil)) (nomark _)))))
      (pss_one (ps_ret pe_bl)) pss_nil)
      (pss_cons (ps_for PassesOwn.never rfl (pi_range1 (by rfl) T.m_range (pa_cons (pe_callB call_len_seq (by rfl) T.m_len PySem.boot_len (pa_cons (pv 1) pa_nil)) pa_nil)) (pg_name (i := 2) sc_law_ints.nd rfl (Or.inl rfl))
      (pss_one (ps_if (PW.pt (pw_or (pt_not (pt_val (pe_callB call_isi (by rfl) T.m_isinstance (by decide +kernel) (pa_cons (pe_ix ix_list (pv 0) (pv 2) (fun _ _ => rfl)) (pa_cons (pe_bltn (v := .ty "int") (by rfl) T.m_int (by decide +kernel) rfl) pa_nil))))) (pw_or (pt_val (pe_callB call_isi (by rfl) T.m_isinstance (by decide +kernel) (pa_cons (pe_ix ix_list (pv 0) (pv 2) (fun _ _ => rfl)) (pa_cons (pe_bltn (v := .ty "bool") (by rfl) T.m_bool (by decide +kernel) rfl) pa_nil)))) (pw_or1 (pt_cmpR op_ne (pe_ix ix_list (pv 0) (pv 2) (fun _ _ => rfl)) (pe_ix ix_list (pv 1) (pv 2) (fun _ _ => rfl)) (nomark _))))))
      (pss_one (ps_ret pe_bl)) pss_nil)))
      (pss_one (ps_ret pe_bl)))), ?_⟩
  -- not a list, or of another length
  refine ⟨_, rfl, _, .ty "list", .type "list", .type "list", true, rfl, ClsV.ty _, .base (.lst hF), kit_ty (by decide +kernel), true, rfl, ?_⟩
  refine ⟨_, rfl, f, _, rfl, .inl (sq hF), _, rfl, d, _, rfl, .inl (sq hD), rfl, _, rfl, ?_⟩
  rw [nlen, nlen]
  refine ite2 (fun c => ?_) (fun c => ?_)
  · have c' : ¬ xs = ns := fun e => by
      rw [e] at c
      simp at c
    rw [decide_eq_false c'] at q
    exact q
  · have hlen : xs.length = ns.length := by
      have : ¬ ¬ (V.int (xs.length : Int) = V.int (ns.length : Int)) := fun h => c (by rw [decide_eq_false h] <;> rfl)
      have := V.int.inj (Decidable.not_not.mp this)
      omega
    refine ⟨_, rfl, d, _, rfl, .inl (sq hD), _, rfl, by rw [nlen]; omega, by rw [nlen]; omega, for_range (lo := 0) (n := ((ns.map V.int).length : Int).toNat) (fun i σ H' => ∃ y, σ = [some (.ref f), some (.ref d), y] ∧ H' = H ∧ xs.take i = ns.take i) ⟨none, rfl, rfl, rfl⟩ ?_ ?_⟩
    · intro i σ H' hi h
      obtain ⟨y, rfl, rfl, ht⟩ := h
      rw [nlen] at hi
      have hi : i < ns.length := by omega
      have gx : xs[i]? = some xs[i] := List.getElem?_eq_getElem (by omega)
      have gn : ns[i]? = some ns[i] := List.getElem?_eq_getElem hi
      have ax : atI (xs.map V.int) (0 + (i : Int)) = some (.int xs[i]) := at_of (j := i) (by omega) (int_get gx)
      have an : atI (ns.map V.int) (0 + (i : Int)) = some (.int ns[i]) := at_of (j := i) (by omega) (int_get gn)
      refine ⟨_, rfl, _, rfl, f, _, _, .int xs[i], rfl, rfl, sq hF, ax, .int xs[i], .ty "int", .type "int", .type "int", true, rfl, ClsV.ty _, .base (.int _), kit_ty (by decide +kernel), true, rfl, ?_⟩
      refine ⟨_, rfl, _, rfl, f, _, _, .int xs[i], rfl, rfl, sq hF, ax, .int xs[i], .ty "bool", .type "int", .type "bool", false, rfl, ClsV.ty _, .base (.int _), kit_ty (by decide +kernel), false, rfl, ?_⟩
      refine ⟨_, rfl, _, rfl, f, _, _, .int xs[i], rfl, rfl, sq hF, ax, _, rfl, _, rfl, d, _, _, .int ns[i], rfl, rfl, sq hD, an, rfl, _, rfl, ite2 (fun c => ?_) (fun c => ?_)⟩
      · have c' : ¬ xs = ns := fun e => by
          subst e
          simp at c
        rw [decide_eq_false c'] at q
        exact q
      · have e : xs[i] = ns[i] := by
          have : ¬ ¬ (V.int xs[i] = V.int ns[i]) := fun h => c (by rw [decide_eq_false h] <;> rfl)
          exact V.int.inj (Decidable.not_not.mp this)
        exact ⟨_, rfl, rfl, by rw [take_snoc gx, take_snoc gn, ht, e]⟩
    · intro σ H' h
      obtain ⟨y, rfl, rfl, ht⟩ := h
      rw [nlen, Int.toNat_natCast, ← hlen, List.take_length, hlen, List.take_length] at ht
      rw [decide_eq_true ht] at q
      exact q

end

section
variable {P : Program} {w : World} {K : PySem.W.Frag} {mg : Str → Option Value} {base : Heap}
theorem sc_law_lists_like : FnScope ["found", "due", "one", "other"] ["found", "due"] (defScope s_law_lists_like) := ⟨rfl, rfl, rfl, by decide +kernel, rfl, by decide +kernel, by decide +kernel⟩
def sp_law_lists_like : Sp := fun vs H Q _ => ∃ (f d : Addr) (fs ds : List Addr) (xs ns : List (List Int)), vs = [.ref f, .ref d] ∧ LL H f fs xs ∧ LL H d ds ns ∧ (∀ n ∈ ns, n.length ≤ 1000) ∧ ∀ H', Same H H' → Q (.bl (decide (xs = ns))) H'
theorem ok_law_lists_like (T : Txt K mg) : Cal P w K mg base CX0 2 "_law_lists_like" ["found", "due"] sp_law_lists_like := by
  have C_law_ints := ok_law_ints (P := P) (w := w) (base := base) T
  refine cal_mk T.d_law_lists_like sc_law_lists_like ?_ (fun _ _ _ _ _ _ us hl => match us, hl with | [_, _], _ => rfl) (fun f cdv A outer s H vs Q E hr h => ?_)
  · intro vs H Q E h
    obtain ⟨f, d, fs, ds, xs, ns, rfl, _⟩ := h
    rfl
  obtain ⟨f, d, fs, ds, xs, ns, rfl, ⟨hF, hfs⟩, ⟨hD, hds⟩, hl, q⟩ := h
  have l1 := hfs.len
  have l2 := hds.len
  refine ⟨_, (pss_cons (ps_if (PW.pt (pw_or (pt_not (pt_val (pe_callB call_isi (by rfl) T.m_isinstance (by decide +kernel) (pa_cons (pv 0) (pa_cons (pe_bltn (v := .ty "list") (by rfl) T.m_list (by decide +kernel) rfl) pa_nil))))) (pw_or1 (pt_cmpR op_ne (pe_callB call_len_seq (by rfl) T.m_len PySem.boot_len (pa_cons (pv 0) pa_nil)) (pe_callB call_len_seq (by rfl) T.m_len PySem.boot_len (pa_cons (pv 1) pa_nil)) (nomark _)))))
      (pss_one (ps_ret pe_bl)) pss_nil)
      (pss_cons (ps_for PassesOwn.never rfl (pi_zip (by rfl) T.m_zip (pa_cons (pv 0) (pa_cons (pv 1) pa_nil))) (pg_tup rfl (pgs_cons (pg_name (i := 2) sc_law_lists_like.nd rfl (Or.inl rfl)) (pgs_cons (pg_name (i := 3) sc_law_lists_like.nd rfl (Or.inl rfl)) pgs_nil)))
      (pss_one (ps_if (pt_not (pt_val (pe_callF C_law_ints (hr.mono (by decide)) (pa_cons (pv 2) (pa_cons (pv 3) pa_nil)))))
      (pss_one (ps_ret pe_bl)) pss_nil)))
      (pss_one (ps_ret pe_bl)))), ?_⟩
  refine ⟨_, rfl, _, .ty "list", .type "list", .type "list", true, rfl, ClsV.ty _, .base (.lst hF), kit_ty (by decide +kernel), true, rfl, ?_⟩
  refine ⟨_, rfl, f, _, rfl, .inl (sq hF), _, rfl, d, _, rfl, .inl (sq hD), rfl, _, rfl, ite2 (fun c => ?_) (fun c => ?_)⟩
  · have c' : ¬ xs = ns := fun e => by
      rw [rlen, rlen, l1, l2, e] at c
      simp at c
    have := q H (Same.refl H)
    rw [decide_eq_false c'] at this
    exact this
  · have hlen : fs.length = ds.length := by
      have : ¬ ¬ (V.int ((fs.map V.ref).length : Int) = V.int ((ds.map V.ref).length : Int)) := fun h => c (by rw [decide_eq_false h] <;> rfl)
      have := V.int.inj (Decidable.not_not.mp this)
      rw [rlen, rlen] at this
      omega
    refine ⟨_, rfl, _, rfl, f, d, _, _, rfl, sq hF, sq hD, RZ.for_zipL (K := K) (xs := fs.map V.ref) (ys := ds.map V.ref) (by rw [rlen, rlen, hlen]) (fun i σ H' => ∃ y1 y2, σ = [some (.ref f), some (.ref d), y1, y2] ∧ Same H H' ∧ xs.take i = ns.take i)
      ⟨none, none, rfl, Same.refl H, rfl⟩ (fun i σ H' h => by obtain ⟨_, _, _, sm, _⟩ := h; exact ⟨sq (sm _ _ hF), sq (sm _ _ hD)⟩) ?_ ?_⟩
    · intro i x y Tp σ H' hx hy h nT
      obtain ⟨y1, y2, rfl, sm, ht⟩ := h
      obtain ⟨fa, hfa, rfl⟩ := get_ref hx
      obtain ⟨da, hda, rfl⟩ := get_ref hy
      have sT := same_new nT (.tup [V.ref fa, V.ref da])
      obtain ⟨m, hm, efa⟩ := hfs.get hfa
      obtain ⟨n, hn, eda⟩ := hds.get hda
      refine ⟨Tp, [.ref fa, .ref da], rfl, .inl (.inl upd_same), rfl, .ref fa, [.ref da], rfl, .ref da, [], rfl, rfl, ?_⟩
      refine ⟨_, rfl, _, rfl, fa, da, m, n, rfl, sT _ _ (sm _ _ efa), sT _ _ (sm _ _ eda), by have := hl n (List.mem_of_getElem? hn); omega, _, rfl, ?_⟩
      refine ite2 (fun c => ?_) (fun c => ?_)
      · have c' : ¬ xs = ns := fun e => by
          subst e
          rw [hm] at hn
          obtain rfl := Option.some.inj hn
          simp at c
        have := q _ (sm.trans sT)
        rw [decide_eq_false c'] at this
        exact this
      · have e : m = n := by
          by_cases e : m = n
          · exact e
          · exact absurd (by rw [decide_eq_false e] <;> rfl) c
        exact ⟨_, _, rfl, sm.trans sT, by rw [take_snoc hm, take_snoc hn, ht, e]⟩
    · intro σ H' h
      obtain ⟨y1, y2, rfl, sm, ht⟩ := h
      have e : xs = ns := by
        rw [rlen] at ht
        rwa [List.take_of_length_le (by omega), List.take_of_length_le (by omega)] at ht
      have := q H' sm
      rw [decide_eq_true e] at this
      exact this

end

section
variable {P : Program} {w : World} {K : PySem.W.Frag} {mg : Str → Option Value} {base : Heap}
theorem sc_must_count : FnScope ["coins", "most"] ["coins", "most"] (defScope s_must_count) := ⟨rfl, rfl, rfl, by decide +kernel, rfl, by decide +kernel, by decide +kernel⟩
def sp_must_count : Sp := fun vs H Q _ => ∃ n m : Int, vs = [.int n, .int m] ∧ 1 ≤ n ∧ n ≤ m ∧ Q .non H
theorem ok_must_count (T : Txt K mg) : Cal P w K mg base CX0 1 "must_count" ["coins", "most"] sp_must_count := by
  refine cal_mk T.d_must_count sc_must_count ?_ (fun _ _ _ _ _ _ us hl => match us, hl with | [_, _], _ => rfl) (fun f cdv A outer s H vs Q E hr h => ?_)
  · intro vs H Q E h
    obtain ⟨n, m, rfl, _⟩ := h
    rfl
  obtain ⟨n, m, rfl, h1, h2, q⟩ := h
  refine ⟨_, (pss_one (ps_if (PW.pt (pw_or (pt_cmpR op_lt (pv 0) pe_int (nomark _)) (pw_or1 (pt_cmpR op_gt (pv 0) (pv 1) (nomark _)))))
      (pss_one ps_never) pss_nil)), ?_⟩
  refine ⟨_, rfl, _, _, rfl, rfl, _, rfl, ite2 (fun c => absurd (of_decide_eq_true c) (by omega)) (fun _ => ⟨_, rfl, _, rfl, _, _, rfl, rfl, _, rfl, ite2 (fun c => absurd (of_decide_eq_true c) (by omega)) (fun _ => q)⟩)⟩

end

section
variable {P : Program} {w : World} {K : PySem.W.Frag} {mg : Str → Option Value} {base : Heap}
theorem sc_settings_by : FnScope ["coins", "most", "found", "pile", "rest"] ["coins", "most"] (defScope s_settings_by) := ⟨rfl, rfl, rfl, by decide +kernel, rfl, by decide +kernel, by decide +kernel⟩
def sp_settings_by (n : Nat) : Sp := fun vs H Q _ => ∃ c m : Nat, vs = [.int c, .int m] ∧ c < n ∧ c ≤ 18 ∧ m ≤ 18 ∧ NLL Q H (parts n c m)
theorem step_settings_by (T : Txt K mg) {n : Nat} (C_settings_by : Cal P w K mg base CX0 n "settings_by" ["coins", "most"] (sp_settings_by n)) : Cal P w K mg base CX0 (n + 1) "settings_by" ["coins", "most"] (sp_settings_by (n + 1)) := by
  refine cal_mk T.d_settings_by sc_settings_by ?_ (fun _ _ _ _ _ _ us hl => match us, hl with | [_, _], _ => rfl) (fun f cdv A outer s H vs Q E hr h => ?_)
  · intro vs H Q E h
    obtain ⟨c, m, rfl, _⟩ := h
    rfl
  obtain ⟨c, m, rfl, h1, h2, h3, q⟩ := h
  refine ⟨_, (pss_cons (ps_if (pt_cmpR op_eq (pv 0) pe_int (nomark _))
      (pss_one (ps_ret (pe_lst (pa_cons (pe_lst pa_nil) pa_nil)))) pss_nil)
      (pss_cons (ps_set (i := 2) sc_settings_by.nd rfl (Or.inl rfl) (pe_lst pa_nil))
      (pss_cons (ps_for PassesOwn.never rfl (pi_range3 (by rfl) T.m_range (pa_cons (pe_callB (call_min2 rfl) (by rfl) T.m_min (by decide +kernel) (pa_cons (pv 0) (pa_cons (pv 1) pa_nil))) (pa_cons pe_int (pa_cons (pe_un un_neg pe_int) pa_nil)))) (pg_name (i := 3) sc_settings_by.nd rfl (Or.inl rfl))
      (pss_one (ps_for PassesOwn.never rfl (pi_list (pe_callF C_settings_by hr (pa_cons (pe_op op_sub (pv 0) (pv 3)) (pa_cons (pv 3) pa_nil)))) (pg_name (i := 4) sc_settings_by.nd rfl (Or.inl rfl))
      (pss_one (ps_expr (pe_bm PySem.F.plainAttrs_list PySem.F.slot_list_append PySem.F.type_list_append mt_append (pv 2) (pa_cons (pe_op op_cat (pe_lst (pa_cons (pv 3) pa_nil)) (pv 4)) pa_nil)))))))
      (pss_one (ps_ret (pv 2)))))), ?_⟩
  refine ⟨_, rfl, rfl, _, rfl, ite2 (fun d => ?_) (fun d => ?_)⟩
  · have d' : (c : Int) = 0 := V.int.inj (of_decide_eq_true d)
    obtain rfl : c = 0 := by omega
    refine ⟨Nat.zero_le _, fun p1 n1 => ⟨(by show 1 ≤ sizeLine; decide), fun p2 n2 => ?_⟩⟩
    have s1 := same_new n1 (.lst ([] : List V))
    have s2 := same_new n2 (.lst [V.ref p1])
    refine q _ p2 [p1] (s1.trans s2) (s1.free n2) (fun a ha => by rw [List.mem_singleton.mp ha]; exact n1) ⟨upd_same, s2 p1 (.lst ([] : List V)) upd_same, trivial⟩
  · have hc : 1 ≤ c := by
      rcases Nat.eq_zero_or_pos c with e | e
      · exact absurd (decide_eq_true (congrArg V.int (by omega))) d
      · exact e
    have hpl : parts (n + 1) c m = groups (fun p => parts n (c - p) p) (min c m) (min c m) := by
      show (if c = 0 then _ else _) = _
      rw [if_neg (by omega)]
    have hlen := parts_len (n + 1) c m
    have hb := two_pow_small (c := c) (by omega)
    rw [hpl] at q hlen
    have hM : (if (m : Int) < (c : Int) then (m : Int) else (c : Int)) = ((min c m : Nat) : Int) := by
      by_cases h : (m : Int) < (c : Int)
      · rw [if_pos h]
        omega
      · rw [if_neg h]
        omega
    have hMc : min c m ≤ c := Nat.min_le_left _ _
    generalize hMe : min c m = M at *
    refine ⟨Nat.zero_le _, fun F nF => ?_⟩
    refine ⟨_, rfl, _, rfl, c, m, rfl, _, rfl, M, 0, -1, _, congrArg (fun z => [V.int z, V.int 0, V.int (-1)]) hM, RgC.neg (by omega) (by omega) (by decide) (by decide), ?_⟩
    refine for_rangeC (lo := (M : Int)) (c := -1) (n := ((M : Int) - 0).toNat) (fun i σ H' => ∃ (as : List Addr) (y1 y2 : Option V), σ = [some (.int c), some (.int m), some (.ref F), y1, y2] ∧ Same H H' ∧ LL H' F as (groups (fun p => parts n (c - p) p) M i) ∧ ∀ a ∈ as, H a = none ∧ a ≠ F)
      ⟨[], none, none, rfl, same_new nF _, ⟨upd_same, trivial⟩, fun a ha => by cases ha⟩ ?_ ?_
    · intro i σ H' hi h
      obtain ⟨as, y1, y2, rfl, sm, ⟨eF, hLL⟩, has⟩ := h
      have hi : i < M := by omega
      have ep : (M : Int) + (i : Int) * (-1) = ((M - i : Nat) : Int) := by omega
      rw [ep]
      have ec : (c : Int) - ((M - i : Nat) : Int) = ((c - (M - i) : Nat) : Int) := by omega
      refine ⟨_, rfl, _, rfl, _, _, rfl, rfl, _, rfl, c - (M - i), M - i, congrArg (fun z => [V.int z, V.int ((M - i : Nat) : Int)]) ec, by omega, by omega, by omega, fun H2 R rs sm2 nR nrs hR => ?_⟩
      obtain ⟨eR, hrs⟩ := hR
      have hrl := hrs.len
      have hgl : (groups (fun p => parts n (c - p) p) M i).length + (parts n (c - (M - i)) (M - i)).length ≤ (groups (fun p => parts n (c - p) p) M M).length := by
        have h1 : (groups (fun p => parts n (c - p) p) M (i + 1)).length ≤ _ := groups_mono (g := fun p => parts n (c - p) p) (M := M) (i := i + 1) (j := M) hi
        have h2 : groups (fun p => parts n (c - p) p) M (i + 1) = groups (fun p => parts n (c - p) p) M i ++ (parts n (c - (M - i)) (M - i)).map (((M - i : Nat) : Int) :: ·) := rfl
        rw [h2, List.length_append, List.length_map] at h1
        exact h1
      have hal := hLL.len
      generalize hgr : groups (fun p => parts n (c - p) p) M i = G at *
      generalize hpp : parts n (c - (M - i)) (M - i) = PP at *
      have nRF : R ≠ F := (ne_of_none eF nR).symm
      refine ⟨R, rfl, ⟨_, sq eR⟩, for_list (K := K) (a := R) (xs := rs.map V.ref) (fun j σ H3 => ∃ (bs : List Addr) (y : Option V), σ = [some (.int c), some (.int m), some (.ref F), some (.int ((M - i : Nat) : Int)), y] ∧ Same H H3 ∧ H3 R = some (.lst (rs.map V.ref)) ∧ LLs H3 rs PP ∧
        LL H3 F (as ++ bs) (G ++ (PP.take j).map (((M - i : Nat) : Int) :: ·)) ∧ ∀ a ∈ bs, H a = none ∧ a ≠ F)
        ⟨[], y2, rfl, sm.trans sm2, eR, hrs, by rw [List.append_nil, List.take_zero, List.map_nil, List.append_nil]; exact ⟨sm2 _ _ eF, hLL.same sm2⟩, fun a ha => by cases ha⟩
        (fun j σ H3 _ h => by obtain ⟨bs, y, _, _, e, _⟩ := h; exact sq e) ?_ ?_⟩
      · intro j x σ H3 hx h
        obtain ⟨r, hr, rfl⟩ := get_ref hx
        obtain ⟨bs, y, rfl, sm3, eR3, hrs3, ⟨eF3, hLL3⟩, hbs⟩ := h
        obtain ⟨ns, hns, er⟩ := hrs3.get hr
        have hjl := (List.getElem?_eq_some_iff.mp hns).1
        have hnl : ns.length ≤ 18 := by
          have := parts_elt n (c - (M - i)) (M - i) ns (by rw [hpp]; exact List.mem_of_getElem? hns)
          omega
        have hl3 := hLL3.len
        rw [List.length_append, List.length_append, List.length_map, List.length_take] at hl3
        -- found.append([pile] + rest)
        refine ⟨_, rfl, .inl ⟨rfl, _, sq eF3⟩, _, rfl, (by show 1 ≤ sizeLine; decide), fun p1 n1 => ?_⟩
        have s1 := same_new n1 (.lst [V.int ((M - i : Nat) : Int)])
        refine ⟨_, rfl, p1, r, _, _, rfl, rfl, upd_same, s1 _ _ er, by rw [nlen]; exact small (by show 1 + ns.length ≤ _; omega), fun p2 n2 => ?_⟩
        have s2 := same_new n2 (.lst ([V.int ((M - i : Nat) : Int)] ++ ns.map V.int))
        have e2 : IL (upd (upd H3 p1 (.lst [V.int ((M - i : Nat) : Int)])) p2 (.lst ([V.int ((M - i : Nat) : Int)] ++ ns.map V.int))) p2 (((M - i : Nat) : Int) :: ns) := upd_same
        have s12 := s1.trans s2
        have n2' : H3 p2 = none := s1.free n2
        generalize upd (upd H3 p1 (.lst [V.int ((M - i : Nat) : Int)])) p2 (.lst ([V.int ((M - i : Nat) : Int)] ++ ns.map V.int)) = H4 at *
        have eF4 := s12 _ _ eF3
        have nFp : p2 ≠ F := (ne_of_none eF3 n2').symm
        refine ⟨F, _, _, rfl, rfl, eF4, by rw [rlen, List.length_append]; exact smallM (by omega), ?_⟩
        have rne : ∀ a ∈ rs, a ≠ F := fun a ha e => by
          rw [e] at ha
          exact absurd (nrs F ha) (by rw [eF]; intro z; cases z)
        refine ⟨bs ++ [p2], some (.ref r), rfl, same_mut (sm3.trans s12) nF _, ?_, (hrs3.same s12).upd rne, ⟨?_, ?_⟩, fun a ha => ?_⟩
        · rw [upd_ne nRF]
          exact s12 _ _ eR3
        · simp only [upd_same, List.map_append, List.append_assoc]
          rfl
        · rw [take_snoc hns]
          simp only [List.map_append, ← List.append_assoc]
          refine LLs.upd (fun a ha => ?_) ((hLL3.same s12).app ⟨e2, trivial⟩)
          rcases List.mem_append.mp ha with ha | ha
          · rcases List.mem_append.mp ha with ha | ha
            · exact (has a ha).2
            · exact (hbs a ha).2
          · rw [List.mem_singleton.mp ha]
            exact nFp
        · rcases List.mem_append.mp ha with ha | ha
          · exact hbs a ha
          · rw [List.mem_singleton.mp ha]
            exact ⟨sm3.free n2', nFp⟩
      · intro σ H3 h
        obtain ⟨bs, y, rfl, sm3, eR3, hrs3, hLL3, hbs⟩ := h
        rw [rlen, hrl, List.take_length] at hLL3
        refine ⟨as ++ bs, _, _, rfl, sm3, ?_, fun a ha => ?_⟩
        · have : groups (fun p => parts n (c - p) p) M (i + 1) = groups (fun p => parts n (c - p) p) M i ++ (parts n (c - (M - i)) (M - i)).map (((M - i : Nat) : Int) :: ·) := rfl
          rw [this, hgr, hpp]
          exact hLL3
        · rcases List.mem_append.mp ha with ha | ha
          · exact has a ha
          · exact hbs a ha
    · intro σ H' h
      obtain ⟨as, y1, y2, rfl, sm, hLL, has⟩ := h
      rw [show ((M : Int) - 0).toNat = M by omega] at hLL
      exact ⟨_, rfl, q H' F as sm nF (fun a ha => (has a ha).1) hLL⟩
theorem rec_settings_by (T : Txt K mg) : ∀ n : Nat, Cal P w K mg base CX0 n "settings_by" ["coins", "most"] (sp_settings_by n)
  | 0 => by
    obtain ⟨fd, F, g⟩ := T.d_settings_by
    have no : ∀ vs H Q E, ¬ sp_settings_by 0 vs H Q E := fun vs H Q E h => by
      obtain ⟨c, m, _, h1, _⟩ := h
      omega
    exact ⟨_, fd, ⟨fun vs H Q E h => absurd h (no vs H Q E), fun A outer s H args us vs Q E _ _ _ _ h => absurd h (no vs H Q E)⟩, g, F.kp, F.bindsN (fun _ _ _ _ _ _ us hl => match us, hl with | [_, _], _ => rfl)⟩
  | n + 1 => step_settings_by T (rec_settings_by T n)
theorem ok_settings_by (T : Txt K mg) : Cal P w K mg base CX0 20 "settings_by" ["coins", "most"] (sp_settings_by 20) := rec_settings_by T 20

end

section
variable {P : Program} {w : World} {K : PySem.W.Frag} {mg : Str → Option Value} {base : Heap}
theorem sc_settings_of : FnScope ["coins"] ["coins"] (defScope s_settings_of) := ⟨rfl, rfl, rfl, by decide +kernel, rfl, by decide +kernel, by decide +kernel⟩
def sp_settings_of : Sp := fun vs H Q _ => ∃ c : Nat, vs = [.int c] ∧ 1 ≤ c ∧ c ≤ 18 ∧ NLL Q H (parts 20 c c)
theorem ok_settings_of (T : Txt K mg) : Cal P w K mg base CX0 21 "settings_of" ["coins"] sp_settings_of := by
  have C_must_count := ok_must_count (P := P) (w := w) (base := base) T
  have C_settings_by := ok_settings_by (P := P) (w := w) (base := base) T
  refine cal_mk T.d_settings_of sc_settings_of ?_ (fun _ _ _ _ _ _ us hl => match us, hl with | [_], _ => rfl) (fun f cdv A outer s H vs Q E hr h => ?_)
  · intro vs H Q E h
    obtain ⟨c, rfl, _⟩ := h
    rfl
  obtain ⟨c, rfl, h1, h2, q⟩ := h
  refine ⟨_, (pss_cons (ps_expr (pe_callF C_must_count (hr.mono (by decide)) (pa_cons (pv 0) (pa_cons pe_int pa_nil))))
      (pss_one (ps_ret (pe_callF C_settings_by (hr.mono (by decide)) (pa_cons (pv 0) (pa_cons (pv 0) pa_nil)))))), ?_⟩
  exact ⟨_, rfl, c, 18, rfl, by omega, by omega, _, rfl, _, rfl, c, c, rfl, by omega, by omega, by omega, q⟩

end

section
variable {P : Program} {w : World} {K : PySem.W.Frag} {mg : Str → Option Value} {base : Heap}
theorem sc_law_all : FnScope ["coins", "most", "found", "pile", "rest"] ["coins", "most"] (defScope s_law_all) := ⟨rfl, rfl, rfl, by decide +kernel, rfl, by decide +kernel, by decide +kernel⟩
def sp_law_all (n : Nat) : Sp := fun vs H Q _ => ∃ c m : Nat, vs = [.int c, .int m] ∧ c < n ∧ c ≤ 18 ∧ m ≤ 18 ∧ NLL Q H (parts n c m)
theorem step_law_all (T : Txt K mg) {n : Nat} (C_law_all : Cal P w K mg base CX0 n "_law_all" ["coins", "most"] (sp_law_all n)) : Cal P w K mg base CX0 (n + 1) "_law_all" ["coins", "most"] (sp_law_all (n + 1)) := by
  refine cal_mk T.d_law_all sc_law_all ?_ (fun _ _ _ _ _ _ us hl => match us, hl with | [_, _], _ => rfl) (fun f cdv A outer s H vs Q E hr h => ?_)
  · intro vs H Q E h
    obtain ⟨c, m, rfl, _⟩ := h
    rfl
  obtain ⟨c, m, rfl, h1, h2, h3, q⟩ := h
  refine ⟨_, (pss_cons (ps_if (pt_cmpR op_eq (pv 0) pe_int (nomark _))
      (pss_one (ps_ret (pe_lst (pa_cons (pe_lst pa_nil) pa_nil)))) pss_nil)
      (pss_cons (ps_set (i := 2) sc_law_all.nd rfl (Or.inl rfl) (pe_lst pa_nil))
      (pss_cons (ps_for PassesOwn.never rfl (pi_range3 (by rfl) T.m_range (pa_cons (pe_callB (call_min2 rfl) (by rfl) T.m_min (by decide +kernel) (pa_cons (pv 0) (pa_cons (pv 1) pa_nil))) (pa_cons pe_int (pa_cons (pe_un un_neg pe_int) pa_nil)))) (pg_name (i := 3) sc_law_all.nd rfl (Or.inl rfl))
      (pss_one (ps_for PassesOwn.never rfl (pi_list (pe_callF C_law_all hr (pa_cons (pe_op op_sub (pv 0) (pv 3)) (pa_cons (pv 3) pa_nil)))) (pg_name (i := 4) sc_law_all.nd rfl (Or.inl rfl))
      (pss_one (ps_expr (pe_bm PySem.F.plainAttrs_list PySem.F.slot_list_append PySem.F.type_list_append mt_append (pv 2) (pa_cons (pe_op op_cat (pe_lst (pa_cons (pv 3) pa_nil)) (pv 4)) pa_nil)))))))
      (pss_one (ps_ret (pv 2)))))), ?_⟩
  refine ⟨_, rfl, rfl, _, rfl, ite2 (fun d => ?_) (fun d => ?_)⟩
  · have d' : (c : Int) = 0 := V.int.inj (of_decide_eq_true d)
    obtain rfl : c = 0 := by omega
    refine ⟨Nat.zero_le _, fun p1 n1 => ⟨(by show 1 ≤ sizeLine; decide), fun p2 n2 => ?_⟩⟩
    have s1 := same_new n1 (.lst ([] : List V))
    have s2 := same_new n2 (.lst [V.ref p1])
    refine q _ p2 [p1] (s1.trans s2) (s1.free n2) (fun a ha => by rw [List.mem_singleton.mp ha]; exact n1) ⟨upd_same, s2 p1 (.lst ([] : List V)) upd_same, trivial⟩
  · have hc : 1 ≤ c := by
      rcases Nat.eq_zero_or_pos c with e | e
      · exact absurd (decide_eq_true (congrArg V.int (by omega))) d
      · exact e
    have hpl : parts (n + 1) c m = groups (fun p => parts n (c - p) p) (min c m) (min c m) := by
      show (if c = 0 then _ else _) = _
      rw [if_neg (by omega)]
    have hlen := parts_len (n + 1) c m
    have hb := two_pow_small (c := c) (by omega)
    rw [hpl] at q hlen
    have hM : (if (m : Int) < (c : Int) then (m : Int) else (c : Int)) = ((min c m : Nat) : Int) := by
      by_cases h : (m : Int) < (c : Int)
      · rw [if_pos h]
        omega
      · rw [if_neg h]
        omega
    have hMc : min c m ≤ c := Nat.min_le_left _ _
    generalize hMe : min c m = M at *
    refine ⟨Nat.zero_le _, fun F nF => ?_⟩
    refine ⟨_, rfl, _, rfl, c, m, rfl, _, rfl, M, 0, -1, _, congrArg (fun z => [V.int z, V.int 0, V.int (-1)]) hM, RgC.neg (by omega) (by omega) (by decide) (by decide), ?_⟩
    refine for_rangeC (lo := (M : Int)) (c := -1) (n := ((M : Int) - 0).toNat) (fun i σ H' => ∃ (as : List Addr) (y1 y2 : Option V), σ = [some (.int c), some (.int m), some (.ref F), y1, y2] ∧ Same H H' ∧ LL H' F as (groups (fun p => parts n (c - p) p) M i) ∧ ∀ a ∈ as, H a = none ∧ a ≠ F)
      ⟨[], none, none, rfl, same_new nF _, ⟨upd_same, trivial⟩, fun a ha => by cases ha⟩ ?_ ?_
    · intro i σ H' hi h
      obtain ⟨as, y1, y2, rfl, sm, ⟨eF, hLL⟩, has⟩ := h
      have hi : i < M := by omega
      have ep : (M : Int) + (i : Int) * (-1) = ((M - i : Nat) : Int) := by omega
      rw [ep]
      have ec : (c : Int) - ((M - i : Nat) : Int) = ((c - (M - i) : Nat) : Int) := by omega
      refine ⟨_, rfl, _, rfl, _, _, rfl, rfl, _, rfl, c - (M - i), M - i, congrArg (fun z => [V.int z, V.int ((M - i : Nat) : Int)]) ec, by omega, by omega, by omega, fun H2 R rs sm2 nR nrs hR => ?_⟩
      obtain ⟨eR, hrs⟩ := hR
      have hrl := hrs.len
      have hgl : (groups (fun p => parts n (c - p) p) M i).length + (parts n (c - (M - i)) (M - i)).length ≤ (groups (fun p => parts n (c - p) p) M M).length := by
        have h1 : (groups (fun p => parts n (c - p) p) M (i + 1)).length ≤ _ := groups_mono (g := fun p => parts n (c - p) p) (M := M) (i := i + 1) (j := M) hi
        have h2 : groups (fun p => parts n (c - p) p) M (i + 1) = groups (fun p => parts n (c - p) p) M i ++ (parts n (c - (M - i)) (M - i)).map (((M - i : Nat) : Int) :: ·) := rfl
        rw [h2, List.length_append, List.length_map] at h1
        exact h1
      have hal := hLL.len
      generalize hgr : groups (fun p => parts n (c - p) p) M i = G at *
      generalize hpp : parts n (c - (M - i)) (M - i) = PP at *
      have nRF : R ≠ F := (ne_of_none eF nR).symm
      refine ⟨R, rfl, ⟨_, sq eR⟩, for_list (K := K) (a := R) (xs := rs.map V.ref) (fun j σ H3 => ∃ (bs : List Addr) (y : Option V), σ = [some (.int c), some (.int m), some (.ref F), some (.int ((M - i : Nat) : Int)), y] ∧ Same H H3 ∧ H3 R = some (.lst (rs.map V.ref)) ∧ LLs H3 rs PP ∧
        LL H3 F (as ++ bs) (G ++ (PP.take j).map (((M - i : Nat) : Int) :: ·)) ∧ ∀ a ∈ bs, H a = none ∧ a ≠ F)
        ⟨[], y2, rfl, sm.trans sm2, eR, hrs, by rw [List.append_nil, List.take_zero, List.map_nil, List.append_nil]; exact ⟨sm2 _ _ eF, hLL.same sm2⟩, fun a ha => by cases ha⟩
        (fun j σ H3 _ h => by obtain ⟨bs, y, _, _, e, _⟩ := h; exact sq e) ?_ ?_⟩
      · intro j x σ H3 hx h
        obtain ⟨r, hr, rfl⟩ := get_ref hx
        obtain ⟨bs, y, rfl, sm3, eR3, hrs3, ⟨eF3, hLL3⟩, hbs⟩ := h
        obtain ⟨ns, hns, er⟩ := hrs3.get hr
        have hjl := (List.getElem?_eq_some_iff.mp hns).1
        have hnl : ns.length ≤ 18 := by
          have := parts_elt n (c - (M - i)) (M - i) ns (by rw [hpp]; exact List.mem_of_getElem? hns)
          omega
        have hl3 := hLL3.len
        rw [List.length_append, List.length_append, List.length_map, List.length_take] at hl3
        -- found.append([pile] + rest)
        refine ⟨_, rfl, .inl ⟨rfl, _, sq eF3⟩, _, rfl, (by show 1 ≤ sizeLine; decide), fun p1 n1 => ?_⟩
        have s1 := same_new n1 (.lst [V.int ((M - i : Nat) : Int)])
        refine ⟨_, rfl, p1, r, _, _, rfl, rfl, upd_same, s1 _ _ er, by rw [nlen]; exact small (by show 1 + ns.length ≤ _; omega), fun p2 n2 => ?_⟩
        have s2 := same_new n2 (.lst ([V.int ((M - i : Nat) : Int)] ++ ns.map V.int))
        have e2 : IL (upd (upd H3 p1 (.lst [V.int ((M - i : Nat) : Int)])) p2 (.lst ([V.int ((M - i : Nat) : Int)] ++ ns.map V.int))) p2 (((M - i : Nat) : Int) :: ns) := upd_same
        have s12 := s1.trans s2
        have n2' : H3 p2 = none := s1.free n2
        generalize upd (upd H3 p1 (.lst [V.int ((M - i : Nat) : Int)])) p2 (.lst ([V.int ((M - i : Nat) : Int)] ++ ns.map V.int)) = H4 at *
        have eF4 := s12 _ _ eF3
        have nFp : p2 ≠ F := (ne_of_none eF3 n2').symm
        refine ⟨F, _, _, rfl, rfl, eF4, by rw [rlen, List.length_append]; exact smallM (by omega), ?_⟩
        have rne : ∀ a ∈ rs, a ≠ F := fun a ha e => by
          rw [e] at ha
          exact absurd (nrs F ha) (by rw [eF]; intro z; cases z)
        refine ⟨bs ++ [p2], some (.ref r), rfl, same_mut (sm3.trans s12) nF _, ?_, (hrs3.same s12).upd rne, ⟨?_, ?_⟩, fun a ha => ?_⟩
        · rw [upd_ne nRF]
          exact s12 _ _ eR3
        · simp only [upd_same, List.map_append, List.append_assoc]
          rfl
        · rw [take_snoc hns]
          simp only [List.map_append, ← List.append_assoc]
          refine LLs.upd (fun a ha => ?_) ((hLL3.same s12).app ⟨e2, trivial⟩)
          rcases List.mem_append.mp ha with ha | ha
          · rcases List.mem_append.mp ha with ha | ha
            · exact (has a ha).2
            · exact (hbs a ha).2
          · rw [List.mem_singleton.mp ha]
            exact nFp
        · rcases List.mem_append.mp ha with ha | ha
          · exact hbs a ha
          · rw [List.mem_singleton.mp ha]
            exact ⟨sm3.free n2', nFp⟩
      · intro σ H3 h
        obtain ⟨bs, y, rfl, sm3, eR3, hrs3, hLL3, hbs⟩ := h
        rw [rlen, hrl, List.take_length] at hLL3
        refine ⟨as ++ bs, _, _, rfl, sm3, ?_, fun a ha => ?_⟩
        · have : groups (fun p => parts n (c - p) p) M (i + 1) = groups (fun p => parts n (c - p) p) M i ++ (parts n (c - (M - i)) (M - i)).map (((M - i : Nat) : Int) :: ·) := rfl
          rw [this, hgr, hpp]
          exact hLL3
        · rcases List.mem_append.mp ha with ha | ha
          · exact has a ha
          · exact hbs a ha
    · intro σ H' h
      obtain ⟨as, y1, y2, rfl, sm, hLL, has⟩ := h
      rw [show ((M : Int) - 0).toNat = M by omega] at hLL
      exact ⟨_, rfl, q H' F as sm nF (fun a ha => (has a ha).1) hLL⟩
theorem rec_law_all (T : Txt K mg) : ∀ n : Nat, Cal P w K mg base CX0 n "_law_all" ["coins", "most"] (sp_law_all n)
  | 0 => by
    obtain ⟨fd, F, g⟩ := T.d_law_all
    have no : ∀ vs H Q E, ¬ sp_law_all 0 vs H Q E := fun vs H Q E h => by
      obtain ⟨c, m, _, h1, _⟩ := h
      omega
    exact ⟨_, fd, ⟨fun vs H Q E h => absurd h (no vs H Q E), fun A outer s H args us vs Q E _ _ _ _ h => absurd h (no vs H Q E)⟩, g, F.kp, F.bindsN (fun _ _ _ _ _ _ us hl => match us, hl with | [_, _], _ => rfl)⟩
  | n + 1 => step_law_all T (rec_law_all T n)
theorem ok_law_all (T : Txt K mg) : Cal P w K mg base CX0 20 "_law_all" ["coins", "most"] (sp_law_all 20) := rec_law_all T 20

end

/-! ### the law -/
def spLaw (K : PySem.W.Frag) : Sp := fun vs H Q _ => ∃ (a : Addr) (ns : List Int), vs = [.ref a] ∧ SL K H a ns ∧ ns.length ≤ 63 ∧ ∀ H', Q (.bl true) H'
theorem nat_of {z : Int} {m : Int} (h : 0 < m) : ∃ n : Nat, 1 + z % m = (n : Int) ∧ 1 ≤ n ∧ (n : Int) ≤ m := by
  have h1 := Int.emod_nonneg z (show m ≠ 0 by omega)
  have h2 := Int.emod_lt_of_pos z h
  exact ⟨(1 + z % m).toNat, by omega, by omega, by omega⟩

section
variable {P : Program} {w : World} {K : PySem.W.Frag} {mg : Str → Option Value} {base : Heap}
theorem sc_law : FnScope ["script", "coins", "due", "found"] ["script"] (defScope s_law) := ⟨rfl, rfl, rfl, by decide +kernel, rfl, by decide +kernel, by decide +kernel⟩
theorem ok_law_at (T : Txt K mg) {f : Addr} {fd : FuncData} (F : FunD K "law" "law" (defArgs s_law) (defBody s_law) (defScope s_law) [] [] f fd) : FnOk P w K mg base CX0 22 f fd ["script"] (spLaw K) := by
  have C_law_all := ok_law_all (P := P) (w := w) (base := base) T
  have C_law_cell := ok_law_cell (P := P) (w := w) (base := base) T
  have C_law_lists_like := ok_law_lists_like (P := P) (w := w) (base := base) T
  have C_settings_of := ok_settings_of (P := P) (w := w) (base := base) T
  refine F.ok sc_law (fun vs H Q E h => ?_) (fun cdv A outer s H vs Q E hr h => ?_)
  · obtain ⟨a, ns, rfl, _⟩ := h
    rfl
  obtain ⟨a, ns, rfl, hS, hlen, q⟩ := h
  refine ⟨_, PSs.nox ((pss_cons (ps_set (i := 1) sc_law.nd rfl (Or.inl rfl) (pe_op op_add pe_int (pe_op op_mod (pe_callF C_law_cell (hr.mono (by decide)) (pa_cons (pv 0) (pa_cons pe_int pa_nil))) pe_int)))
      (pss_cons (ps_if (pt_cmpR op_eq (pe_op op_mod (pe_callF C_law_cell (hr.mono (by decide)) (pa_cons (pv 0) (pa_cons pe_int pa_nil))) pe_int) pe_int (nomark _))
      (pss_one (ps_set (i := 1) sc_law.nd rfl (Or.inl rfl) (pe_op op_add pe_int (pe_op op_mod (pe_callF C_law_cell (hr.mono (by decide)) (pa_cons (pv 0) (pa_cons pe_int pa_nil))) pe_int)))) pss_nil)
      (pss_cons (ps_set (i := 2) sc_law.nd rfl (Or.inl rfl) (pe_callF C_law_all (hr.mono (by decide)) (pa_cons (pv 1) (pa_cons (pv 1) pa_nil))))
      (pss_cons (ps_set (i := 3) sc_law.nd rfl (Or.inl rfl) (pe_callF C_settings_of (hr.mono (by decide)) (pa_cons (pv 1) pa_nil)))
      (pss_cons (ps_if (pt_not (pt_val (pe_callF C_law_lists_like (hr.mono (by decide)) (pa_cons (pv 3) (pa_cons (pv 2) pa_nil)))))
      (pss_one (ps_ret pe_bl)) pss_nil)
      (pss_cons (ps_expr (pe_bm PySem.F.plainAttrs_list PySem.F.slot_list_append PySem.F.type_list_append mt_append (pe_ix ix_list (pv 3) pe_int (fun _ _ => rfl)) (pa_cons pe_int pa_nil)))
      (pss_cons (ps_expr (pe_bm0 PySem.F.plainAttrs_list PySem.F.slot_list_pop PySem.F.type_list_pop mt_pop (pv 3)))
      (pss_one (ps_ret (pe_callF C_law_lists_like (hr.mono (by decide)) (pa_cons (pe_callF C_settings_of (hr.mono (by decide)) (pa_cons (pv 1) pa_nil)) (pa_cons (pv 2) pa_nil))))))))))))), ?_⟩
  refine ⟨_, rfl, a, ns, 0, rfl, hS, by omega, fun z => ⟨_, _, rfl, rfl, (by show (0 : Int) < 13; decide), _, _, rfl, rfl, ?_⟩⟩
  refine ⟨_, rfl, a, ns, 1, rfl, hS, by omega, fun z1 => ⟨_, _, rfl, rfl, (by show (0 : Int) < 5; decide), rfl, _, rfl, ite2 (fun _ => ?w1) (fun _ => ?w2)⟩⟩
  case' w1 =>
    refine ⟨_, rfl, a, ns, 0, rfl, hS, by omega, fun z2 => ⟨_, _, rfl, rfl, (by show (0 : Int) < 5; decide), _, _, rfl, rfl, ?_⟩⟩
    have h1 := Int.emod_nonneg z2 (show (5 : Int) ≠ 0 by decide)
    have h2 := Int.emod_lt_of_pos z2 (show (0 : Int) < 5 by decide)
    obtain ⟨n, en, n1, n2⟩ : ∃ n : Nat, 14 + z2 % 5 = (n : Int) ∧ 1 ≤ n ∧ n ≤ 18 := ⟨(14 + z2 % 5).toNat, by omega, by omega, by omega⟩
    obtain ⟨c0, ec0⟩ : ∃ c : Int, 14 + z2 % 5 = c := ⟨_, rfl⟩
  case' w2 =>
    obtain ⟨n, en, n1, n2'⟩ := nat_of (z := z) (m := 13) (by decide)
    have n2 : n ≤ 18 := by omega
    obtain ⟨c0, ec0⟩ : ∃ c : Int, 1 + z % 13 = c := ⟨_, rfl⟩
  all_goals
    have hle : ∀ m ∈ parts 20 n n, m.length ≤ 1000 := fun m hm => by
      have := parts_elt 20 n n m hm
      omega
    have hne := parts_ne 20 n n (by omega) n1
    have hlen := parts_len 20 n n
    have hb := two_pow_small (c := n) (by omega)
    refine ⟨_, rfl, _, rfl, n, n, congrArg (fun z => [V.int z, V.int z]) en, by omega, n2, n2, fun H1 d ds sm1 nd nds hD => ?_⟩
    have hdl := hD.2.len
    refine ⟨_, rfl, n, congrArg (fun z => [V.int z]) en, n1, n2, fun H2 f fs sm2 nf nfs hF => ?_⟩
    have hfl := hF.2.len
    have hD2 : LL H2 d ds (parts 20 n n) := ⟨sm2 _ _ hD.1, hD.2.same sm2⟩
    refine ⟨_, rfl, _, rfl, f, d, fs, ds, _, _, rfl, hF, hD2, hle, fun H3 sm3 => ⟨_, rfl, ?_⟩⟩
    refine ite2 (fun c => absurd c (by rw [decide_eq_true rfl] <;> decide)) (fun _ => ?_)
    -- found[0].append(1)
    have hf0 : 0 < fs.length := by
      have := List.length_pos_iff.mpr hne
      omega
    have g0 : fs[0]? = some (fs[0]'hf0) := List.getElem?_eq_getElem hf0
    obtain ⟨x, hx, ex⟩ := hF.2.get g0
    have hxl := hle x (List.mem_of_getElem? hx)
    have ex3 := sm3 _ _ ex
    have nx1 : H1 (fs[0]'hf0) = none := nfs _ (List.getElem_mem hf0)
    refine ⟨_, rfl, f, _, _, .ref (fs[0]'hf0), rfl, rfl, sq (sm3 _ _ hF.1), atI_nat (j := 0) (ref_get g0), .inl ⟨rfl, _, sq ex3⟩, _, _, _, rfl, rfl, ex3, by rw [nlen]; exact smallL (by omega), ?_⟩
    have hmut : ∀ a ∈ ds, a ≠ fs[0]'hf0 := fun a ha => by
      obtain ⟨m, _, em⟩ := hD.2.in_ ha
      exact ne_of_none em nx1
    have ndx : d ≠ fs[0]'hf0 := ne_of_none hD.1 nx1
    have nfx : f ≠ fs[0]'hf0 := fun e => by
      have h1 := hF.1
      rw [e, ex] at h1
      have h2 := Option.some.inj h1
      have h3 : x.map V.int = fs.map V.ref := by
        injection h2
      have h4 := congrArg (fun l => l[0]?) h3
      simp only [List.getElem?_map, g0, Option.map_some] at h4
      cases hx0 : x[0]? with
      | none =>
        rw [hx0] at h4
        cases h4
      | some z =>
        rw [hx0] at h4
        cases h4
    -- found.pop()
    have eF4 : (upd H3 (fs[0]'hf0) (.lst (x.map V.int ++ [V.int 1]))) f = some (.lst (fs.map V.ref)) := by
      rw [upd_ne nfx]
      exact sm3 _ _ hF.1
    have hD4 : LL (upd H3 (fs[0]'hf0) (.lst (x.map V.int ++ [V.int 1]))) d ds (parts 20 n n) := ⟨by rw [upd_ne ndx]; exact sm3 _ _ hD2.1, (hD2.2.same sm3).upd hmut⟩
    generalize upd H3 (fs[0]'hf0) (.lst (x.map V.int ++ [V.int 1])) = H4 at *
    have glast : fs[fs.length - 1]? = some (fs[fs.length - 1]'(by omega)) := List.getElem?_eq_getElem (by omega)
    refine ⟨_, rfl, .inl ⟨rfl, _, sq eF4⟩, f, _, .ref (fs[fs.length - 1]'(by omega)), rfl, rfl, eF4, by rw [rlen]; exact ref_get glast, ?_⟩
    have ndf : d ≠ f := ne_of_none hD.1 nf
    have hmut2 : ∀ a ∈ ds, a ≠ f := fun a ha => by
      obtain ⟨m, _, em⟩ := hD.2.in_ ha
      exact ne_of_none em nf
    have hD5 : LL (upd H4 f (.lst (fs.map V.ref).dropLast)) d ds (parts 20 n n) := ⟨by rw [upd_ne ndf]; exact hD4.1, hD4.2.upd hmut2⟩
    generalize upd H4 f (.lst (fs.map V.ref).dropLast) = H5 at *
    refine ⟨_, rfl, n, congrArg (fun z => [V.int z]) en, n1, n2, fun H6 g gs sm6 ng ngs hG => ?_⟩
    refine ⟨_, rfl, g, d, gs, ds, _, _, rfl, hG, ⟨sm6 _ _ hD5.1, hD5.2.same sm6⟩, hle, fun H7 sm7 => ?_⟩
    rw [decide_eq_true rfl]
    exact q _

end

/-! ### the head: facts by names, the run -/
def dd_must_count : He.DefD := ⟨("must_count", none), "must_count", "must_count", defArgs s_must_count, defBody s_must_count, defScope s_must_count, [], []⟩
def dd_settings_by : He.DefD := ⟨("settings_by", none), "settings_by", "settings_by", defArgs s_settings_by, defBody s_settings_by, defScope s_settings_by, [], []⟩
def dd_settings_of : He.DefD := ⟨("settings_of", none), "settings_of", "settings_of", defArgs s_settings_of, defBody s_settings_of, defScope s_settings_of, [], []⟩
def dd_law_cell : He.DefD := ⟨("_law_cell", none), "_law_cell", "_law_cell", defArgs s_law_cell, defBody s_law_cell, defScope s_law_cell, [], []⟩
def dd_law_ints : He.DefD := ⟨("_law_ints", none), "_law_ints", "_law_ints", defArgs s_law_ints, defBody s_law_ints, defScope s_law_ints, [], []⟩
def dd_law_lists_like : He.DefD := ⟨("_law_lists_like", none), "_law_lists_like", "_law_lists_like", defArgs s_law_lists_like, defBody s_law_lists_like, defScope s_law_lists_like, [], []⟩
def dd_law_all : He.DefD := ⟨("_law_all", none), "_law_all", "_law_all", defArgs s_law_all, defBody s_law_all, defScope s_law_all, [], []⟩
def dd_law : He.DefD := ⟨("law", none), "law", "law", defArgs s_law, defBody s_law, defScope s_law, [], []⟩
def fn : List He.DefD := [dd_must_count, dd_settings_by, dd_settings_of, dd_law_cell, dd_law_ints, dd_law_lists_like, dd_law_all, dd_law]
def fa : List He.Fa := [.glo "must_count", .glo "settings_by", .glo "settings_of", .glo "_law_cell", .glo "_law_ints", .glo "_law_lists_like", .glo "_law_all", .glo "law", .free "bool", .free "int", .free "isinstance", .free "len", .free "list", .free "min", .free "range", .free "zip"]
abbrev R : PySem.W.OpenRow := PySem.W.OpenLaw.row PySem.Challenge.rw_pilewheel_k13_all_settings
abbrev hk : PySem.W.Hook := He.hookD 4 fa fn
def ob (s : PySem.W.SharedT) : He.AlD := He.obsDG 4 fa fn (HandSHeadRun.getT s)
theorem ob_eq (s : PySem.W.SharedT) : ob s = hk.obs s.abs := He.obsDG_eq (HandSHeadRun.getT_eq s)
def loose : List PySem.Str := ["PileError", "NoNumber", "must_count", "settings_by", "settings_of", "_law_cell", "_law_ints", "_law_lists_like", "_law_all"]
theorem run (w : World) : HandSHeadRun.RunEq R (PySem.W.view R.prog [12]) hk ob 4000 loose w := by
  intro os
  kernel_rfl
theorem facts {P : Program} {w : World} {K : PySem.W.Frag} {h : Heap} {mg : Str → Option Value} {f : Addr} (X : K.In h) (G : h.Ns mainGlobals mg) (hfa : mg ("law" : Str) = some (.ref f)) (c : He.SaysD fa fn K) :
    ∃ fd : FuncData, (∀ (s : Shared) (v : Value), BindsTo s fd ⟨[v], []⟩ [("script", v)]) ∧ ∀ base : Heap, K.In base → base.Ns mainGlobals mg → FnOk P w K mg base CX0 22 f fd ["script"] (spLaw K) := by
  have T : Txt K mg := {
      d_must_count := by
        obtain ⟨fd, F⟩ := c.def_ 0 (d := dd_must_count) rfl
        exact ⟨fd, F, He.glo_ok X G (c.fact 0 (f := .glo "must_count") rfl)⟩,
      d_settings_by := by
        obtain ⟨fd, F⟩ := c.def_ 1 (d := dd_settings_by) rfl
        exact ⟨fd, F, He.glo_ok X G (c.fact 1 (f := .glo "settings_by") rfl)⟩,
      d_settings_of := by
        obtain ⟨fd, F⟩ := c.def_ 2 (d := dd_settings_of) rfl
        exact ⟨fd, F, He.glo_ok X G (c.fact 2 (f := .glo "settings_of") rfl)⟩,
      d_law_cell := by
        obtain ⟨fd, F⟩ := c.def_ 3 (d := dd_law_cell) rfl
        exact ⟨fd, F, He.glo_ok X G (c.fact 3 (f := .glo "_law_cell") rfl)⟩,
      d_law_ints := by
        obtain ⟨fd, F⟩ := c.def_ 4 (d := dd_law_ints) rfl
        exact ⟨fd, F, He.glo_ok X G (c.fact 4 (f := .glo "_law_ints") rfl)⟩,
      d_law_lists_like := by
        obtain ⟨fd, F⟩ := c.def_ 5 (d := dd_law_lists_like) rfl
        exact ⟨fd, F, He.glo_ok X G (c.fact 5 (f := .glo "_law_lists_like") rfl)⟩,
      d_law_all := by
        obtain ⟨fd, F⟩ := c.def_ 6 (d := dd_law_all) rfl
        exact ⟨fd, F, He.glo_ok X G (c.fact 6 (f := .glo "_law_all") rfl)⟩,
      m_bool := He.free_ok X G (c.fact 8 (f := .free "bool") rfl),
      m_int := He.free_ok X G (c.fact 9 (f := .free "int") rfl),
      m_isinstance := He.free_ok X G (c.fact 10 (f := .free "isinstance") rfl),
      m_len := He.free_ok X G (c.fact 11 (f := .free "len") rfl),
      m_list := He.free_ok X G (c.fact 12 (f := .free "list") rfl),
      m_min := He.free_ok X G (c.fact 13 (f := .free "min") rfl),
      m_range := He.free_ok X G (c.fact 14 (f := .free "range") rfl),
      m_zip := He.free_ok X G (c.fact 15 (f := .free "zip") rfl) }
  obtain ⟨fd, F⟩ := c.def_ 7 (d := dd_law) rfl
  have e := hfa.symm.trans (He.glo_ok X G (c.fact 7 (f := .glo "law") rfl))
  cases e
  have b := FunD.bindsA (ps := ["script"]) F fun _ _ _ _ _ _ us hl => match us, hl with | [_], _ => rfl
  exact ⟨fd, fun s v => b s [v] rfl, fun base _ _ => ok_law_at T F⟩

end PW
open PySem PySem.W PySem.Calls PyProof.Rows
set_option maxRecDepth 100000 in
set_option maxHeartbeats 0 in
theorem PySem.Challenge.cw_pilewheel_k13_all_settings_holds : PySem.Challenge.rw_pilewheel_k13_all_settings.Holds := by
  w_on; o_law
  refine HandSHeadRun.head_any (r := OpenLaw.row PySem.Challenge.rw_pilewheel_k13_all_settings) (q := view (OpenLaw.row PySem.Challenge.rw_pilewheel_k13_all_settings).prog [12]) (H := PW.hk) (ob := PW.ob) (M := 4000) (loose := PW.loose) (d := HandSHeadRun.topDef (OpenLaw.row PySem.Challenge.rw_pilewheel_k13_all_settings).prog 12) (kwd := []) PW.ob_eq
    (by kernel_rfl) (fun s => by kernel_rfl) PW.run (by kernel_rfl) (by kernel_rfl) (by kernel_rfl) (by rfl) (by first | assumption | decide +kernel) (by decide +kernel) ⟨rfl, rfl, rfl, rfl, rfl, by decide +kernel⟩ ?hw ?hc
  case hw => w_witness2
  case hc =>
    refine L2.walk_ofE (l := PySem.Challenge.rw_pilewheel_k13_all_settings) (n := 63) (k := 22) (x := "script") (CX := L2.CX0) rfl (by decide) (by kernel_rfl) ⟨rfl, by decide, by decide⟩ ?F (fun _ _ _ _ z => z)
    intro w mg fa h Y G hmg0
    obtain ⟨K, KX, c⟩ := Y
    have hmg : mg ("law" : PySem.Str) = some (.ref fa) := by
      have e : (HandSHeadRun.topDef (OpenLaw.row PySem.Challenge.rw_pilewheel_k13_all_settings).prog 12).name = ("law" : PySem.Str) := by kernel_rfl
      rw [← e]
      exact hmg0
    obtain ⟨fd, hb, hF⟩ := PW.facts (P := (PySem.Challenge.rw_pilewheel_k13_all_settings).prog) (w := w) KX G hmg c
    exact ⟨K, fd, PW.spLaw K, KX, hb, fun H a ns hl _ hS => ⟨a, ns, rfl, hS, hl, fun _ => rfl⟩, hF⟩
