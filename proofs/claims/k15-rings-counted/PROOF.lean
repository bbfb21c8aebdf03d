import PyProof.Rows.All
import Wide.All
import OpenK.AllK
import Wide.FinOn
import KE.KStateDown
import Lean
import HandS.ForMost
import HandS.Exc
import HandS.More
import HandS.WordsExc
import HandS.Defaults
import HandS.Wide
import HandS.SortInts
import HandS.Rev
import HandS.IsInst
import HandS.Deep
import HandS.Zip
import HandS.Head0
import HandS.Head1
import HandS.Head2
import HandS.HeadEnd
import HandS.HeadHook1
import HandS.HeadHook2
import PySem.Challenge.RW_pilewheel_k15_rings_counted
set_option Elab.async false
set_option linter.all false
set_option maxRecDepth 100000
set_option maxHeartbeats 4000000
namespace PW
open PySem PySem.Spec PyProof.Rows L2

/-! ### a def that may be called -/
structure Cal (P : Program) (w : World) (K : PySem.W.Frag) (mg : Str → Option Value) (base : Heap) (CX : CXT) (k : Nat) (x : Str) (ps : List Str) (sp : Sp) : Prop where
  ex : ∃ (f : Addr) (fd : FuncData), FnOk P w K mg base CX k f fd ps sp ∧ mg x = some (.ref f) ∧ PySem.W.keepIn K (.ref f) = true ∧ Binds K fd ps []
def DefAt (K : PySem.W.Frag) (mg : Str → Option Value) (x : Str) (st : Stmt) : Prop :=
  ∃ fd, FunD K x x (defArgs st) (defBody st) (defScope st) [] [] (He.ga K x) fd ∧ mg x = some (.ref (He.ga K x))
theorem pe_callF {X : Cx} {k : Nat} {x : Str} {ps : List Str} {sp : Sp} {e : Expr} {es : List Expr} {t : TA} {p pos : Pos} (C : Cal X.prog X.w X.K X.mg X.base CX0 k x ps sp) (hr : Room k X.A) (ha : PA X (e :: es) t) (hg : Gl X x := by rfl)
    (hdb : (x == ("__debug__" : Str)) = false := by decide) (he : starEach (e :: es) X.env = (false, eval e X.env) :: starEach es X.env := by rfl) (hpl : (backTo pos (starEach es X.env)).any (·.1) = false := by rfl) :
    PE X (.Call (.Name x p) (e :: es) [] pos) (tCall sp [] E0 t) := by
  obtain ⟨f, fd, F, hm, hk, hb⟩ := C.ex
  exact pe_call F hr hg hm hk hb .nil pass0 ha hdb he hpl
theorem pe_globX {X : Cx} {x : Str} {v : V} {pos : Pos} (h : ∃ u, X.mg x = some u ∧ RelV v u) (hg : Gl X x := by rfl) (hd : (x == ("__debug__" : Str)) = false := by decide) : PE X (.Name x pos) (tC v) := by
  obtain ⟨u, hm, r⟩ := h
  exact pe_glob hg hm r hd
theorem cal_mk {P : Program} {w : World} {K : PySem.W.Frag} {mg : Str → Option Value} {base : Heap} {x : Str} {st : Stmt} {N ps : List Str} {k : Nat} {sp : Sp} (D : DefAt K mg x st) (S : FnScope N ps (defScope st)) (len : ∀ vs H Q E, sp vs H Q E → vs.length = ps.length)
    (hb : ∀ (kV doc pm : Value) (an : Option Addr) (cdv ct : Value) (us : List Value), us.length = ps.length → bindArgs (PySem.W.fnOf x x (defArgs st) (defBody st) (defScope st) .none kV doc pm an cdv ct) ⟨us, []⟩ = pure (ps.zip us))
    (hbody : ∀ (f : Addr) (cdv : Value) (A : Around) (outer : List Env) (s : Shared) (H : Hp) (vs : List V) (Q : VK) (E : XK), Room k (A.deeper (envOfC x (defScope st) s.heap.objs.size f cdv)) → sp vs H Q E →
      ∃ t, PSs (cxOf CX0 P w K mg base N x (defScope st) f cdv A outer s H E).nox (defBody st) t ∧ t { nx := fun _ H' => Q .non H', rt := Q } (start N vs) H) : Cal P w K mg base CX0 (k + 1) x ps sp := by
  obtain ⟨fd, F, g⟩ := D
  refine ⟨⟨_, fd, F.ok S len (fun cdv A outer s H vs Q E hr h => ?_), g, F.kp, F.bindsN hb⟩⟩
  obtain ⟨t, h1, h2⟩ := hbody _ cdv A outer s H vs Q E hr h
  exact ⟨t, h1.nox, h2⟩
/-! ### heaps -/
theorem same_new {H : Hp} {p : Addr} (h : H p = none) (o : HO) : Same H (upd H p o) := fun b u q => by rw [upd_ne (ne_of_none q h)]; exact q
theorem same_mut {H H' : Hp} {p : Addr} (e : Same H H') (h : H p = none) (o : HO) : Same H (upd H' p o) := fun b u q => by
  rw [upd_ne (ne_of_none q h)]
  exact e b u q
theorem small {n : Nat} (h : n ≤ 100000) : n ≤ sizeLine := Nat.le_trans h (by decide)
theorem smallL {n : Nat} (h : n ≤ 100000) : n < sizeLine := Nat.lt_of_le_of_lt h (by decide)
/-- a list of ints that may be changed; the script -/
abbrev IL (H : Hp) (a : Addr) (ns : List Int) : Prop := H a = some (.lst (ns.map V.int))
abbrev SL (K : PySem.W.Frag) (H : Hp) (a : Addr) (ns : List Int) : Prop := SqL K H a (ns.map V.int)
/-- a new list of ints -/
abbrev NL (Q : VK) (H : Hp) (ns : List Int) : Prop := ∀ (H' : Hp) (p : Addr), Same H H' → H p = none → IL H' p ns → Q (.ref p) H'
theorem sq {K : PySem.W.Frag} {H : Hp} {a : Addr} {xs : List V} (h : H a = some (.lst xs)) : SqL K H a xs := .inl (.inl h)
theorem nlen {ns : List Int} : (ns.map V.int).length = ns.length := List.length_map _
theorem take_snoc {α : Type} {l : List α} {i : Nat} {x : α} (h : l[i]? = some x) : l.take (i + 1) = l.take i ++ [x] := by
  rw [List.take_add_one, h] <;> rfl
theorem cut_to (xs : List V) {j : Nat} (h : j ≤ xs.length) : cutV xs none (some (j : Int)) = xs.take j := by
  unfold cutV
  rw [HT.sIx_none, HT.sIx_nat, Nat.min_eq_left h] <;> rfl
theorem cut_from (xs : List V) {j : Nat} (h : j ≤ xs.length) : cutV xs (some (j : Int)) none = xs.drop j := by
  unfold cutV
  rw [HT.sIx_none, HT.sIx_nat, Nat.min_eq_left h]
  exact List.take_of_length_le (by rw [List.length_drop]; exact Nat.le_refl _)
theorem get_int {ns : List Int} {i : Nat} {x : V} (h : (ns.map V.int)[i]? = some x) : ∃ z, ns[i]? = some z ∧ x = .int z := by
  rw [List.getElem?_map] at h
  cases e : ns[i]? with
  | none => rw [e] at h; cases h
  | some z => rw [e] at h; exact ⟨z, rfl, (Option.some.inj h).symm⟩
theorem int_get {ns : List Int} {i : Nat} {z : Int} (h : ns[i]? = some z) : (ns.map V.int)[i]? = some (.int z) := by
  rw [List.getElem?_map, h] <;> rfl
/-- list(reversed(e)), e a list -/
def tListRev (K : PySem.W.Frag) (te : TE) : TE := fun σ H Q => te σ H fun v H1 => ∃ (a : Addr) (xs : List V), v = .ref a ∧ SqL K H1 a xs ∧ ∀ q, H1 q = none → Q (.ref q) (upd H1 q (.lst xs.reverse))
/-! ### rules within a comprehension: the written part by name -/
theorem ix_listK {X : Cx} (K : PySem.W.Frag) (h : X.K = K := by rfl) : IxR X (rIxL K) := by
  subst h
  exact ix_list
theorem call_len_seqK {X : Cx} (K : PySem.W.Frag) (h : X.K = K := by rfl) : CallR X (.builtin "len") (fun xs H Q => ∃ p ys, xs = [.ref p] ∧ (SqL K H p ys ∨ SqT K H p ys) ∧ Q (.int ys.length) H) := by
  subst h
  exact call_len_seq
theorem op_in_seqK {X : Cx} (K : PySem.W.Frag) (h : X.K = K := by rfl) : OpR X (compareOp .In) (rIn K false) := by
  subst h
  exact op_in_seq
theorem op_notIn_seqK {X : Cx} (K : PySem.W.Frag) (h : X.K = K := by rfl) : OpR X (compareOp .NotIn) (rIn K true) := by
  subst h
  exact op_notIn_seq
theorem sl_listK {X : Cx} (K : PySem.W.Frag) (h : X.K = K := by rfl) : SlR X (rSlL K) := by
  subst h
  exact sl_list

/-! ### lists that fall -/
def insD (x : Int) : List Int → List Int
  | [] => [x]
  | y :: r => if y > x then y :: insD x r else x :: y :: r
def fall : List Int → List Int
  | [] => []
  | x :: r => insD x (fall r)
abbrev Falls (l : List Int) : Prop := l.Pairwise (· ≥ ·)
theorem insD_perm (x : Int) : ∀ l : List Int, (insD x l).Perm (x :: l)
  | [] => .refl _
  | y :: r => by
    unfold insD
    split
    · exact ((insD_perm x r).cons y).trans (.swap x y r)
    · exact .refl _
theorem insD_mem {x z : Int} {l : List Int} : z ∈ insD x l ↔ z = x ∨ z ∈ l := by
  rw [(insD_perm x l).mem_iff, List.mem_cons]
theorem insD_falls {x : Int} : ∀ {l : List Int}, Falls l → Falls (insD x l)
  | [], _ => List.pairwise_singleton _ _
  | y :: r, h => by
    obtain ⟨h1, h2⟩ := List.pairwise_cons.mp h
    unfold insD
    split
    · rename_i c
      refine List.pairwise_cons.mpr ⟨fun z hz => ?_, insD_falls h2⟩
      rcases insD_mem.mp hz with rfl | hz
      · exact Int.le_of_lt c
      · exact h1 z hz
    · rename_i c
      refine List.pairwise_cons.mpr ⟨fun z hz => ?_, h⟩
      rcases List.mem_cons.mp hz with rfl | hz
      · show z ≤ x
        omega
      · have := h1 z hz
        show z ≤ x
        omega
theorem fall_perm : ∀ l : List Int, (fall l).Perm l
  | [] => .refl _
  | x :: r => (insD_perm x _).trans ((fall_perm r).cons x)
theorem fall_falls : ∀ l : List Int, Falls (fall l)
  | [] => List.Pairwise.nil
  | _ :: r => insD_falls (fall_falls r)
theorem falls_unique : ∀ {l m : List Int}, l.Perm m → Falls l → Falls m → l = m
  | [], m, h, _, _ => (List.nil_perm.mp h).symm
  | x :: l, [], h, _, _ => absurd h.length_eq (by simp)
  | x :: l, y :: m, h, hl, hm => by
    obtain ⟨a1, a2⟩ := List.pairwise_cons.mp hl
    obtain ⟨b1, b2⟩ := List.pairwise_cons.mp hm
    have e : x = y := by
      have hx : x ∈ y :: m := h.mem_iff.mp (List.mem_cons_self ..)
      have hy : y ∈ x :: l := h.mem_iff.mpr (List.mem_cons_self ..)
      rcases List.mem_cons.mp hx with e | hx
      · exact e
      · rcases List.mem_cons.mp hy with e | hy
        · exact e.symm
        · have p := b1 x hx
          have q := a1 y hy
          omega
    subst e
    rw [falls_unique ((List.perm_cons x).mp h) a2 b2]
theorem fall_eq {l m : List Int} (h : m.Perm l) (hm : Falls m) : m = fall l := falls_unique (h.trans (fall_perm l).symm) hm (fall_falls l)
theorem fall_self {l : List Int} (h : Falls l) : fall l = l := (fall_eq (.refl _) h).symm
theorem fall_length (l : List Int) : (fall l).length = l.length := (fall_perm l).length_eq
theorem perm_sum : ∀ {l m : List Int}, l.Perm m → l.sum = m.sum := fun h => by
  induction h with
  | nil => rfl
  | cons x _ ih => rw [List.sum_cons, List.sum_cons, ih]
  | swap x y l => simp only [List.sum_cons]; omega
  | trans _ _ a b => exact a.trans b
theorem fall_sum (l : List Int) : (fall l).sum = l.sum := perm_sum (fall_perm l)
/-! ### settings -/
structure Good (ns : List Int) : Prop where
  pos : ∀ x ∈ ns, 1 ≤ x
  falls : Falls ns
  ne : ns ≠ []
theorem len_le_sum : ∀ {ns : List Int}, (∀ x ∈ ns, 1 ≤ x) → (ns.length : Int) ≤ ns.sum
  | [], _ => Int.le_refl 0
  | x :: r, h => by
    have h1 := h x (List.mem_cons_self ..)
    have ih := len_le_sum (ns := r) fun z hz => h z (List.mem_cons_of_mem _ hz)
    rw [List.sum_cons, List.length_cons]
    omega
theorem mem_le_sum : ∀ {ns : List Int}, (∀ x ∈ ns, 0 ≤ x) → ∀ x ∈ ns, x ≤ ns.sum
  | y :: r, h, x, hx => by
    have h1 := h y (List.mem_cons_self ..)
    have h2 : ∀ z ∈ r, 0 ≤ z := fun z hz => h z (List.mem_cons_of_mem _ hz)
    have h3 : 0 ≤ r.sum := by
      clear hx
      induction r with
      | nil => exact Int.le_refl 0
      | cons a t ih =>
        rw [List.sum_cons]
        have q1 := h2 a (List.mem_cons_self ..)
        have q2 := ih (fun z hz => h z (by rcases List.mem_cons.mp hz with e | e <;> simp [e])) fun z hz => h2 z (List.mem_cons_of_mem _ hz)
        omega
    rw [List.sum_cons]
    rcases List.mem_cons.mp hx with rfl | hx
    · omega
    · have q := mem_le_sum h2 x hx
      omega
/-- a setting of n coins -/
def IsSet (n : Int) (ns : List Int) : Prop := Good ns ∧ ns.sum = n
theorem IsSet.len {n : Int} {ns : List Int} (h : IsSet n ns) : (ns.length : Int) ≤ n := by
  have := len_le_sum h.1.pos
  rw [h.2] at this
  exact this
theorem IsSet.le {n : Int} {ns : List Int} (h : IsSet n ns) {x : Int} (hx : x ∈ ns) : x ≤ n := by
  have := mem_le_sum (fun z hz => by have := h.1.pos z hz; omega) x hx
  rw [h.2] at this
  exact this
theorem IsSet.ne {n : Int} {ns : List Int} (h : IsSet n ns) : 0 < ns.length := List.length_pos_iff.mpr h.1.ne
/-! ### a turn -/
def down1 (ns : List Int) : List Int := (ns.filter fun z => decide (z > 1)).map (· - 1)
def turn (ns : List Int) : List Int := insD ns.length (down1 ns)
theorem down1_cons (x : Int) (r : List Int) : down1 (x :: r) = if x > 1 then (x - 1) :: down1 r else down1 r := by
  unfold down1
  rw [List.filter_cons]
  by_cases c : x > 1
  · rw [if_pos c, if_pos (decide_eq_true c)] <;> rfl
  · rw [if_neg c, if_neg (by simp only [decide_eq_true_eq]; exact c)]
theorem mem_down1 {z : Int} {ns : List Int} : z ∈ down1 ns ↔ z + 1 ∈ ns ∧ 1 ≤ z := by
  unfold down1
  simp only [List.mem_map, List.mem_filter, decide_eq_true_eq]
  constructor
  · rintro ⟨y, ⟨h1, h2⟩, rfl⟩
    exact ⟨by rw [show y - 1 + 1 = y by omega]; exact h1, by omega⟩
  · rintro ⟨h1, h2⟩
    exact ⟨z + 1, ⟨h1, by omega⟩, by omega⟩
theorem down1_falls {ns : List Int} (h : Falls ns) : Falls (down1 ns) := by
  induction ns with
  | nil => exact List.Pairwise.nil
  | cons x r ih =>
    obtain ⟨h1, h2⟩ := List.pairwise_cons.mp h
    rw [down1_cons]
    split
    · refine List.pairwise_cons.mpr ⟨fun z hz => ?_, ih h2⟩
      have := h1 _ (mem_down1.mp hz).1
      show z ≤ x - 1
      omega
    · exact ih h2
theorem down1_sum {ns : List Int} (h : ∀ x ∈ ns, 1 ≤ x) : (down1 ns).sum + ns.length = ns.sum := by
  induction ns with
  | nil => rfl
  | cons x r ih =>
    have h1 := h x (List.mem_cons_self ..)
    have ih := ih fun z hz => h z (List.mem_cons_of_mem _ hz)
    rw [down1_cons]
    split
    · rw [List.sum_cons, List.sum_cons, List.length_cons]; omega
    · rw [List.sum_cons, List.length_cons]; omega
theorem down1_length (ns : List Int) : (down1 ns).length ≤ ns.length := by
  unfold down1
  rw [List.length_map]
  exact List.length_filter_le _ _
theorem turn_perm (ns : List Int) : (turn ns).Perm (down1 ns ++ [(ns.length : Int)]) := (insD_perm _ _).trans (List.perm_append_comm (l₁ := [(ns.length : Int)]) (l₂ := down1 ns))
theorem turn_eq {ns : List Int} (h : Falls ns) : turn ns = fall (down1 ns ++ [(ns.length : Int)]) := fall_eq (turn_perm ns) (insD_falls (down1_falls h))
theorem turn_set {n : Int} {ns : List Int} (h : IsSet n ns) : IsSet n (turn ns) := by
  refine ⟨⟨fun x hx => ?_, insD_falls (down1_falls h.1.falls), fun e => ?_⟩, ?_⟩
  · rcases insD_mem.mp hx with rfl | hx
    · have := h.ne
      omega
    · exact (mem_down1.mp hx).2
  · have : (turn ns).length = (down1 ns).length + 1 := (insD_perm _ _).length_eq
    rw [e] at this
    simp at this
  · rw [show (turn ns).sum = _ from perm_sum (insD_perm _ _), List.sum_cons]
    have := down1_sum h.1.pos
    rw [h.2] at this
    omega
theorem turn_length (ns : List Int) : (turn ns).length ≤ ns.length + 1 := by
  have : (turn ns).length = (down1 ns).length + 1 := (insD_perm _ _).length_eq
  have := down1_length ns
  omega

/-! ### the stair -/
def stairUp : Nat → Nat → Nat → Nat
  | 0, s, _ => s
  | f + 1, s, n => if s * (s + 1) < 2 * n then stairUp f (s + 1) n else s
def stair (n : Nat) : Nat := stairUp n 1 n
theorem sq_mono {a b : Nat} (h : a ≤ b) : a * (a + 1) ≤ b * (b + 1) := Nat.mul_le_mul h (Nat.succ_le_succ h)
theorem le_sq (a : Nat) : a ≤ a * (a + 1) := Nat.le_mul_of_pos_right a (Nat.succ_pos a)
theorem stairUp_spec : ∀ (f s n : Nat), n ≤ f + s → 1 ≤ s → (s - 1) * s < 2 * n → 1 ≤ stairUp f s n ∧ (stairUp f s n - 1) * stairUp f s n < 2 * n ∧ 2 * n ≤ stairUp f s n * (stairUp f s n + 1)
  | 0, s, n, h, h1, h2 => by
    refine ⟨h1, h2, ?_⟩
    show 2 * n ≤ s * (s + 1)
    have : s * 2 ≤ s * (s + 1) := Nat.mul_le_mul_left s (by omega)
    omega
  | f + 1, s, n, h, h1, h2 => by
    unfold stairUp
    split
    · rename_i c
      exact stairUp_spec f (s + 1) n (by omega) (by omega) (by rw [Nat.add_sub_cancel]; exact c)
    · rename_i c
      exact ⟨h1, h2, by omega⟩
theorem stair_spec {n : Nat} (h : 1 ≤ n) : 1 ≤ stair n ∧ (stair n - 1) * stair n < 2 * n ∧ 2 * n ≤ stair n * (stair n + 1) := stairUp_spec n 1 n (by omega) (Nat.le_refl _) (by omega)
theorem stair_uniq {n s : Nat} (h : 1 ≤ n) (h1 : 1 ≤ s) (h2 : (s - 1) * s < 2 * n) (h3 : 2 * n ≤ s * (s + 1)) : s = stair n := by
  obtain ⟨a, b, c⟩ := stair_spec h
  generalize stair n = t at *
  rcases Nat.lt_trichotomy s t with l | e | l
  · have := sq_mono (show s ≤ t - 1 by omega)
    rw [show t - 1 + 1 = t by omega] at this
    omega
  · exact e
  · have := sq_mono (show t ≤ s - 1 by omega)
    rw [show s - 1 + 1 = s by omega] at this
    omega
theorem stair_le {n : Nat} (h : 1 ≤ n) {b : Nat} (hb : 2 * n ≤ b * (b + 1)) (h1 : 1 ≤ b) : stair n ≤ b := by
  obtain ⟨_, b1, _⟩ := stair_spec h
  rcases Nat.lt_or_ge b (stair n) with l | l
  · have := sq_mono (show b ≤ stair n - 1 by omega)
    rw [show stair n - 1 + 1 = stair n by omega] at this
    omega
  · exact l
/-- the ones of n coins' marks -/
def restOf (n : Nat) : Nat := n - stair n * (stair n - 1) / 2
theorem half_sq (s : Nat) : 2 * (s * (s + 1) / 2) = s * (s + 1) := by
  have h : s * (s + 1) % 2 = 0 := by
    rcases Nat.mod_two_eq_zero_or_one s with e | e
    · rw [Nat.mul_mod, e, Nat.zero_mul]
    · rw [Nat.mul_mod, Nat.add_mod, e]
  omega
theorem half_sq' {s : Nat} (h : 1 ≤ s) : 2 * (s * (s - 1) / 2) = s * (s - 1) := by
  have := half_sq (s - 1)
  rw [show s - 1 + 1 = s by omega, Nat.mul_comm (s - 1) s] at this
  exact this
theorem rest_spec {n : Nat} (h : 1 ≤ n) : 1 ≤ restOf n ∧ restOf n ≤ stair n ∧ n = stair n * (stair n - 1) / 2 + restOf n := by
  obtain ⟨a, b, c⟩ := stair_spec h
  have e := half_sq' a
  unfold restOf
  have d : stair n * (stair n + 1) = stair n * (stair n - 1) + 2 * stair n := by
    rw [← Nat.mul_comm (stair n) 2, ← Nat.mul_add]
    congr 1
    omega
  rw [Nat.mul_comm] at b
  omega
/-! ### marks -/
def mk : List Int → List Int
  | [] => []
  | m :: r => ((r.length : Int) + m) :: mk r
def ofMarks (ms : List Int) : List Int := (mk ms).filter fun z => decide (z > 0)
theorem mk_length : ∀ ms : List Int, (mk ms).length = ms.length
  | [] => rfl
  | _ :: r => congrArg (· + 1) (mk_length r)
theorem mk_get : ∀ {ms : List Int} {i : Nat} {m : Int}, ms[i]? = some m → (mk ms)[i]? = some ((ms.length : Int) - 1 - i + m)
  | [], _, _, h => by simp at h
  | a :: r, 0, m, h => by
    have e : a = m := Option.some.inj h
    subst e
    show some ((r.length : Int) + a) = some (((r.length + 1 : Nat) : Int) - 1 - ((0 : Nat) : Int) + a)
    congr 1
    omega
  | a :: r, i + 1, m, h => by
    have ih := mk_get (ms := r) (i := i) (m := m) h
    show (mk r)[i]? = some (((r.length + 1 : Nat) : Int) - 1 - ((i + 1 : Nat) : Int) + m)
    rw [ih]
    congr 1
    omega
/-- noughts and ones -/
def Bits (ms : List Int) : Prop := ∀ m ∈ ms, m = 0 ∨ m = 1
theorem mk_bits : ∀ {ms : List Int}, Bits ms → (∀ z ∈ mk ms, 0 ≤ z ∧ z ≤ ms.length) ∧ Falls (mk ms)
  | [], _ => ⟨fun _ h => (by cases h), List.Pairwise.nil⟩
  | m :: r, h => by
    have hm := h m (List.mem_cons_self ..)
    obtain ⟨h1, h2⟩ := mk_bits (ms := r) fun z hz => h z (List.mem_cons_of_mem _ hz)
    refine ⟨fun z hz => ?_, List.pairwise_cons.mpr ⟨fun z hz => ?_, h2⟩⟩
    · rw [List.length_cons]
      rcases List.mem_cons.mp hz with rfl | hz
      · omega
      · have := h1 z hz
        omega
    · have := h1 z hz
      show z ≤ (r.length : Int) + m
      omega
theorem mk_sum : ∀ ms : List Int, (mk ms).sum = ((ms.length * (ms.length - 1) / 2 : Nat) : Int) + ms.sum
  | [] => rfl
  | m :: r => by
    have ih := mk_sum r
    show ((r.length : Int) + m) + (mk r).sum = _
    rw [ih, List.sum_cons, List.length_cons]
    have e1 := half_sq r.length
    have e2 : 2 * (r.length * (r.length - 1) / 2) = r.length * (r.length - 1) := by
      rcases Nat.eq_zero_or_pos r.length with e | e
      · rw [e]
      · exact half_sq' e
    rw [Nat.add_sub_cancel, Nat.mul_comm (r.length + 1) r.length]
    have e3 : r.length * (r.length + 1) = r.length * (r.length - 1) + 2 * r.length := by
      rcases Nat.eq_zero_or_pos r.length with e | e
      · rw [e]
      · rw [← Nat.mul_comm r.length 2, ← Nat.mul_add]
        congr 1
        omega
    omega
theorem filter_pos_sum : ∀ {l : List Int}, (∀ z ∈ l, 0 ≤ z) → (l.filter fun z => decide (z > 0)).sum = l.sum
  | [], _ => rfl
  | x :: r, h => by
    have h1 := h x (List.mem_cons_self ..)
    have ih := filter_pos_sum (l := r) fun z hz => h z (List.mem_cons_of_mem _ hz)
    rw [List.filter_cons]
    by_cases c : x > 0
    · rw [if_pos (decide_eq_true c), List.sum_cons, List.sum_cons, ih]
    · rw [if_neg (by simp only [decide_eq_true_eq]; exact c), List.sum_cons, ih]
      omega
theorem ofMarks_set {n : Nat} (hn : 1 ≤ n) {ms : List Int} (hb : Bits ms) (hl : ms.length = stair n) (hs : ms.sum = (restOf n : Int)) : IsSet n (ofMarks ms) := by
  obtain ⟨h1, h2⟩ := mk_bits hb
  have hsum : (ofMarks ms).sum = (n : Int) := by
    unfold ofMarks
    rw [filter_pos_sum fun z hz => (h1 z hz).1, mk_sum, hs, hl]
    have := (rest_spec hn).2.2
    omega
  refine ⟨⟨fun x hx => ?_, ?_, fun e => ?_⟩, hsum⟩
  · have := of_decide_eq_true (List.mem_filter.mp hx).2
    omega
  · exact List.Pairwise.filter _ h2
  · rw [e] at hsum
    have : (0 : Int) = n := hsum
    omega
/-! ### elders: what the pile at a place was not yet -/
def elderAt (ns : List Int) (j : Nat) (p : Int) : List Int := ((ns.take j ++ ns.drop (j + 1)).map (· + 1)) ++ List.replicate (p - ((ns.length : Int) - 1)).toNat 1
theorem sum_replicate (n : Nat) : (List.replicate n (1 : Int)).sum = n := by
  induction n with
  | zero => rfl
  | succ n ih => rw [List.replicate_succ, List.sum_cons, ih]; omega
theorem sum_map_add1 : ∀ l : List Int, (l.map (· + 1)).sum = l.sum + l.length
  | [] => rfl
  | x :: r => by
    have ih := sum_map_add1 r
    rw [List.map_cons, List.sum_cons, List.sum_cons, ih, List.length_cons]
    omega
theorem take_drop_sum : ∀ {ns : List Int} {j : Nat} {p : Int}, ns[j]? = some p → (ns.take j ++ ns.drop (j + 1)).sum + p = ns.sum ∧ (ns.take j ++ ns.drop (j + 1)).length + 1 = ns.length
  | [], _, _, h => by simp at h
  | a :: r, 0, p, h => by
    have e : a = p := Option.some.inj h
    subst e
    refine ⟨?_, rfl⟩
    show r.sum + a = (a :: r).sum
    rw [List.sum_cons]
    omega
  | a :: r, j + 1, p, h => by
    obtain ⟨h1, h2⟩ := take_drop_sum (ns := r) (j := j) (p := p) h
    refine ⟨?_, ?_⟩
    · show (a :: (r.take j ++ r.drop (j + 1))).sum + p = (a :: r).sum
      rw [List.sum_cons, List.sum_cons]
      omega
    · show (r.take j ++ r.drop (j + 1)).length + 1 + 1 = r.length + 1
      omega
theorem take_drop_sub (ns : List Int) (j : Nat) : (ns.take j ++ ns.drop (j + 1)).Sublist ns := by
  have h := (List.Sublist.refl (ns.take j)).append (List.drop_sublist 1 (ns.drop j))
  rw [List.take_append_drop, List.drop_drop] at h
  exact h
theorem elder_set {n : Int} {ns : List Int} (h : IsSet n ns) {j : Nat} {p : Int} (hp : ns[j]? = some p) (hb : p ≥ (ns.length : Int) - 1) : IsSet n (elderAt ns j p) := by
  obtain ⟨s1, s2⟩ := take_drop_sum hp
  have sub := take_drop_sub ns j
  have h1 := h.1.pos p (List.mem_of_getElem? hp)
  refine ⟨⟨fun x hx => ?_, ?_, fun e => ?_⟩, ?_⟩
  · rcases List.mem_append.mp hx with hx | hx
    · obtain ⟨y, hy, rfl⟩ := List.mem_map.mp hx
      have := h.1.pos y (sub.subset hy)
      omega
    · rw [List.eq_of_mem_replicate hx]
      exact Int.le_refl 1
  · refine List.pairwise_append.mpr ⟨?_, ?_, fun a ha b hb => ?_⟩
    · rw [List.pairwise_map]
      exact (h.1.falls.sublist sub).imp fun h => by omega
    · exact List.pairwise_replicate.mpr (.inr (Int.le_refl 1))
    · obtain ⟨y, hy, rfl⟩ := List.mem_map.mp ha
      have := h.1.pos y (sub.subset hy)
      rw [List.eq_of_mem_replicate hb]
      omega
  · have := congrArg List.length e
    unfold elderAt at this
    rw [List.length_append, List.length_map, List.length_replicate, List.length_nil] at this
    omega
  · unfold elderAt
    rw [List.sum_append, sum_map_add1, sum_replicate]
    have := h.2
    omega

/-! ### ways to choose, rings counted -/
def choN (a : Nat) : Nat → Nat
  | 0 => 1
  | k + 1 => choN a k * (a - k) / (k + 1)
def sumTo (f : Nat → Nat) : Nat → Nat
  | 0 => 0
  | i + 1 => sumTo f i + f i
/-- what the program adds at a turning -/
def ringT (s r t : Nat) : Nat := if r % (s / Nat.gcd s t) = 0 then choN (Nat.gcd s t) (r / (s / Nat.gcd s t)) else 0
def freeN (p : Nat) : Nat := sumTo (fun k => if Nat.gcd (k + 1) p = 1 then 1 else 0) p
/-- what the law adds at a part -/
def partT (s r i : Nat) : Nat := if s % (i + 1) = 0 ∧ r % (i + 1) = 0 then freeN (i + 1) * choN (s / (i + 1)) (r / (i + 1)) else 0
def ringsN (s r : Nat) : Nat := sumTo (ringT s r) s / s
def burnOk (s : Nat) : Bool := (List.range (s + 1)).all fun r => r == 0 || ringsN s r * s == sumTo (partT s r) s
theorem burn_all : (List.range 64).all burnOk = true := by decide +kernel
theorem burn {s r : Nat} (hs : s ≤ 63) (h1 : 1 ≤ r) (hr : r ≤ s) : ringsN s r * s = sumTo (partT s r) s := by
  have h := List.all_eq_true.mp burn_all s (List.mem_range.mpr (by omega))
  have h2 := List.all_eq_true.mp h r (List.mem_range.mpr (by omega))
  rcases Bool.or_eq_true_iff.mp h2 with e | e
  · have := beq_iff_eq.mp e
    omega
  · exact beq_iff_eq.mp e

/-! ### the text -/
def top (i : Nat) : Stmt := PySem.Challenge.pw_pilewheel_k15_rings_counted.main.body.getD i (.Pass ⟨0, 0, 0, 0⟩)
abbrev s_stair_of : Stmt := top 4
abbrev s_must_count : Stmt := top 6
abbrev s_chosen : Stmt := top 7
abbrev s_common : Stmt := top 8
abbrev s_rings_many : Stmt := top 9
abbrev s_law_cell : Stmt := top 11
abbrev s_law_whole : Stmt := top 12
abbrev s_law_common : Stmt := top 13
abbrev s_law_chosen : Stmt := top 14
abbrev s_law : Stmt := top 15
structure Txt (K : PySem.W.Frag) (mg : Str → Option Value) : Prop where
  d_stair_of : DefAt K mg "stair_of" s_stair_of
  d_must_count : DefAt K mg "must_count" s_must_count
  d_chosen : DefAt K mg "chosen" s_chosen
  d_common : DefAt K mg "common" s_common
  d_rings_many : DefAt K mg "rings_many" s_rings_many
  d_law_cell : DefAt K mg "_law_cell" s_law_cell
  d_law_whole : DefAt K mg "_law_whole" s_law_whole
  d_law_common : DefAt K mg "_law_common" s_law_common
  d_law_chosen : DefAt K mg "_law_chosen" s_law_chosen
  m_bool : mg "bool" = none
  m_int : mg "int" = none
  m_isinstance : mg "isinstance" = none
  m_len : mg "len" = none
  m_range : mg "range" = none

section
variable {P : Program} {w : World} {K : PySem.W.Frag} {mg : Str → Option Value} {base : Heap}
theorem sc_law_cell : FnScope ["script", "k", "base"] ["script", "k"] (defScope s_law_cell) := ⟨rfl, rfl, rfl, by decide +kernel, rfl, by decide +kernel, by decide +kernel⟩
/-- any number may stand in a cell -/
def sp_law_cell (K : PySem.W.Frag) : Sp := fun vs H Q _ => ∃ (a : Addr) (ns : List Int) (k : Int), vs = [.ref a, .int k] ∧ SL K H a ns ∧ 0 ≤ k ∧ ∀ z, Q (.int z) H
theorem ok_law_cell (T : Txt K mg) : Cal P w K mg base CX0 1 "_law_cell" ["script", "k"] (sp_law_cell K) := by
  refine cal_mk T.d_law_cell sc_law_cell ?_ (fun _ _ _ _ _ _ us hl => match us, hl with | [_, _], _ => rfl) (fun f cdv A outer s H vs Q E hr h => ?_)
  · intro vs H Q E h
    obtain ⟨a, ns, k, rfl, _⟩ := h
    rfl
  obtain ⟨a, ns, k, rfl, hS, h0, q⟩ := h
  refine ⟨_, (pss_cons (ps_if (pt_cmpR op_lt (pv 1) (pe_callB call_len_seq (by rfl) T.m_len PySem.boot_len (pa_cons (pv 0) pa_nil)) (nomark _))
      (pss_one (ps_ret (pe_ix ix_list (pv 0) (pv 1) (fun _ _ => rfl)))) pss_nil)
      (pss_cons (ps_set (i := 2) sc_law_cell.nd rfl (Or.inl rfl) pe_int)
      (pss_cons (ps_if (pt_cmpR op_gt (pe_callB call_len_seq (by rfl) T.m_len PySem.boot_len (pa_cons (pv 0) pa_nil)) pe_int (nomark _))
      (pss_one (ps_set (i := 2) sc_law_cell.nd rfl (Or.inl rfl) (pe_ix ix_list (pv 0) pe_int (fun _ _ => rfl)))) pss_nil)
      (pss_one (ps_ret (pe_op op_mod (pe_op op_add (pe_op op_mul (pe_op op_mod (pv 2) pe_int) pe_int) (pe_op op_mul (pv 1) pe_int)) pe_int)))))), ?_⟩
  refine ⟨_, rfl, _, rfl, a, _, rfl, .inl hS, _, _, rfl, rfl, _, rfl, ite2 (fun c => ?_) (fun c => ?_)⟩
  · have c' : k < ((ns.map V.int).length : Int) := of_decide_eq_true c
    rw [List.length_map] at c'
    obtain ⟨j, rfl⟩ : ∃ j : Nat, k = j := ⟨k.toNat, by omega⟩
    have hj : j < ns.length := by omega
    exact ⟨_, rfl, _, rfl, a, _, _, .int ns[j], rfl, rfl, hS, atI_nat (int_get (List.getElem?_eq_getElem hj)), q _⟩
  · refine ⟨_, rfl, a, _, rfl, .inl hS, _, _, rfl, rfl, _, rfl, ite2 (fun c => ?_) (fun c => ?_)⟩
    · have c' : (0 : Int) < ((ns.map V.int).length : Int) := of_decide_eq_true c
      rw [List.length_map] at c'
      have hj : 0 < ns.length := by omega
      refine ⟨_, rfl, a, _, 0, .int ns[0], rfl, rfl, hS, atI_nat (j := 0) (int_get (List.getElem?_eq_getElem hj)), ?_⟩
      exact ⟨_, rfl, _, _, rfl, rfl, (by show (0 : Int) < 65521; decide), _, _, rfl, rfl, .inr ⟨by decide, by decide⟩, _, rfl, _, _, rfl, rfl, .inr ⟨by decide, by decide⟩, _, _, rfl, rfl, _, _, rfl, rfl, (by show (0 : Int) < 65521; decide), q _⟩
    · exact ⟨_, rfl, _, _, rfl, rfl, (by show (0 : Int) < 65521; decide), _, _, rfl, rfl, .inr ⟨by decide, by decide⟩, _, rfl, _, _, rfl, rfl, .inr ⟨by decide, by decide⟩, _, _, rfl, rfl, _, _, rfl, rfl, (by show (0 : Int) < 65521; decide), q _⟩

end

section
variable {P : Program} {w : World} {K : PySem.W.Frag} {mg : Str → Option Value} {base : Heap}
theorem sc_law_whole : FnScope ["found"] ["found"] (defScope s_law_whole) := ⟨rfl, rfl, rfl, by decide +kernel, rfl, by decide +kernel, by decide +kernel⟩
def sp_law_whole : Sp := fun vs H Q _ => ∃ z : Int, vs = [.int z] ∧ Q (.bl true) H
theorem ok_law_whole (T : Txt K mg) : Cal P w K mg base CX0 1 "_law_whole" ["found"] sp_law_whole := by
  refine cal_mk T.d_law_whole sc_law_whole ?_ (fun _ _ _ _ _ _ us hl => match us, hl with | [_], _ => rfl) (fun f cdv A outer s H vs Q E hr h => ?_)
  · intro vs H Q E h
    obtain ⟨z, rfl, _⟩ := h
    rfl
  obtain ⟨z, rfl, q⟩ := h
  refine ⟨_, (pss_one (ps_ret (pe_and (pe_callB call_isi (by rfl) T.m_isinstance (by decide +kernel) (pa_cons (pv 0) (pa_cons (pe_bltn (v := .ty "int") (by rfl) T.m_int (by decide +kernel) rfl) pa_nil))) (pe_one (pe_not (pe_callB call_isi (by rfl) T.m_isinstance (by decide +kernel) (pa_cons (pv 0) (pa_cons (pe_bltn (v := .ty "bool") (by rfl) T.m_bool (by decide +kernel) rfl) pa_nil)))))))), ?_⟩
  refine ⟨_, rfl, .int z, .ty "int", .type "int", .type "int", true, rfl, ClsV.ty _, .base (.int _), kit_ty (by decide +kernel), true, rfl, ?_⟩
  exact ⟨_, rfl, .int z, .ty "bool", .type "int", .type "bool", false, rfl, ClsV.ty _, .base (.int _), kit_ty (by decide +kernel), false, rfl, q⟩

end

section
variable {P : Program} {w : World} {K : PySem.W.Frag} {mg : Str → Option Value} {base : Heap}
theorem sc_stair_of : FnScope ["coins", "stair"] ["coins"] (defScope s_stair_of) := ⟨rfl, rfl, rfl, by decide +kernel, rfl, by decide +kernel, by decide +kernel⟩
def sp_stair_of : Sp := fun vs H Q _ => ∃ n : Nat, vs = [.int n] ∧ 1 ≤ n ∧ n ≤ 100000 ∧ Q (.int (stair n)) H
theorem ok_stair_of (T : Txt K mg) : Cal P w K mg base CX0 1 "stair_of" ["coins"] sp_stair_of := by
  refine cal_mk T.d_stair_of sc_stair_of ?_ (fun _ _ _ _ _ _ us hl => match us, hl with | [_], _ => rfl) (fun f cdv A outer s H vs Q E hr h => ?_)
  · intro vs H Q E h
    obtain ⟨n, rfl, _⟩ := h
    rfl
  obtain ⟨n, rfl, h1, h2, q⟩ := h
  refine ⟨_, (pss_cons (ps_set (i := 1) sc_stair_of.nd rfl (Or.inl rfl) pe_int)
      (pss_cons (ps_while PassesOwn.never (pt_cmpR op_lt (pe_op op_fdiv (pe_op op_mul (pv 1) (pe_op op_add (pv 1) pe_int)) pe_int) (pv 0) (nomark _))
      (pss_one (ps_set (i := 1) sc_stair_of.nd rfl (Or.inl rfl) (pe_op op_add (pv 1) pe_int))))
      (pss_one (ps_ret (pv 1))))), ?_⟩
  refine ⟨fun m σ H' => ∃ s : Nat, σ = [some (.int n), some (.int s)] ∧ H' = H ∧ m = 2 * n + 2 - s ∧ 1 ≤ s ∧ (s - 1) * s < 2 * n, ⟨_, 1, rfl, rfl, rfl, Nat.le_refl _, by omega⟩, fun m σ H' hW => ?_⟩
  obtain ⟨s, rfl, rfl, rfl, g1, g2⟩ := hW
  have g3 : s ≤ 2 * n + 1 := by
    have := Nat.mul_le_mul_left (s - 1) g1
    omega
  have hh := half_sq s
  refine ⟨_, rfl, _, rfl, _, _, rfl, rfl, _, _, rfl, rfl, .inl ⟨by omega, by omega⟩, _, _, rfl, rfl, ⟨by decide, by decide⟩, _, rfl, _, _, rfl, rfl, _, rfl, ite2 (fun c => ?_) (fun c => ?_)⟩
  · have c' : (s : Int) * ((s : Int) + 1) / 2 < (n : Int) := of_decide_eq_true c
    have c1 : ((s * (s + 1) / 2 : Nat) : Int) < (n : Int) := c'
    have c2 : s * (s + 1) < 2 * n := by omega
    refine ⟨fun σ' H2 => ∃ s' : Nat, s' = s + 1 ∧ σ' = [some (.int n), some (.int s')] ∧ H2 = H', fun σ' H2 h => ?_, ?_⟩
    · obtain ⟨s', rfl, e1, e2⟩ := h
      exact ⟨2 * n + 2 - (s + 1), by omega, s + 1, e1, e2, rfl, by omega, by rw [Nat.add_sub_cancel]; exact c2⟩
    · exact ⟨_, rfl, _, _, rfl, rfl, s + 1, rfl, rfl, rfl⟩
  · have c' : ¬ (s : Int) * ((s : Int) + 1) / 2 < (n : Int) := fun h => c (decide_eq_true h)
    have c1 : ¬ ((s * (s + 1) / 2 : Nat) : Int) < (n : Int) := c'
    have c2 : 2 * n ≤ s * (s + 1) := by omega
    rw [← stair_uniq h1 g1 g2 c2] at q
    exact ⟨_, rfl, q⟩

end

section
variable {P : Program} {w : World} {K : PySem.W.Frag} {mg : Str → Option Value} {base : Heap}
theorem sc_must_count : FnScope ["coins", "most"] ["coins", "most"] (defScope s_must_count) := ⟨rfl, rfl, rfl, by decide +kernel, rfl, by decide +kernel, by decide +kernel⟩
def sp_must_count : Sp := fun vs H Q _ => ∃ n m : Int, vs = [.int n, .int m] ∧ 1 ≤ n ∧ n ≤ m ∧ Q .non H
theorem ok_must_count (T : Txt K mg) : Cal P w K mg base CX0 1 "must_count" ["coins", "most"] sp_must_count := by
  refine cal_mk T.d_must_count sc_must_count ?_ (fun _ _ _ _ _ _ us hl => match us, hl with | [_, _], _ => rfl) (fun f cdv A outer s H vs Q E hr h => ?_)
  · intro vs H Q E h
    obtain ⟨n, m, rfl, _⟩ := h
    rfl
  obtain ⟨n, m, rfl, h1, h2, q⟩ := h
  refine ⟨_, (pss_one (ps_if (PW.pt (pw_or (pt_cmpR op_lt (pv 0) pe_int (nomark _)) (pw_or1 (pt_cmpR op_gt (pv 0) (pv 1) (nomark _)))))
      (pss_one ps_never) pss_nil)), ?_⟩
  refine ⟨_, rfl, _, _, rfl, rfl, _, rfl, ite2 (fun c => absurd (of_decide_eq_true c) (by omega)) (fun _ => ⟨_, rfl, _, rfl, _, _, rfl, rfl, _, rfl, ite2 (fun c => absurd (of_decide_eq_true c) (by omega)) (fun _ => q)⟩)⟩

end

section
variable {P : Program} {w : World} {K : PySem.W.Frag} {mg : Str → Option Value} {base : Heap}
theorem sc_chosen : FnScope ["all_of", "some", "total", "k"] ["all_of", "some"] (defScope s_chosen) := ⟨rfl, rfl, rfl, by decide +kernel, rfl, by decide +kernel, by decide +kernel⟩
def sp_chosen : Sp := fun vs H Q _ => ∃ a k : Nat, vs = [.int a, .int k] ∧ k ≤ a ∧ a ≤ 100000 ∧ Q (.int (choN a k)) H
theorem ok_chosen (T : Txt K mg) : Cal P w K mg base CX0 1 "chosen" ["all_of", "some"] sp_chosen := by
  refine cal_mk T.d_chosen sc_chosen ?_ (fun _ _ _ _ _ _ us hl => match us, hl with | [_, _], _ => rfl) (fun f cdv A outer s H vs Q E hr h => ?_)
  · intro vs H Q E h
    obtain ⟨n, m, rfl, _⟩ := h
    rfl
  obtain ⟨n, m, rfl, h1, h2, q⟩ := h
  refine ⟨_, (pss_cons (ps_set (i := 2) sc_chosen.nd rfl (Or.inl rfl) pe_int)
      (pss_cons (ps_for PassesOwn.never rfl (pi_range1 (by rfl) T.m_range (pa_cons (pv 1) pa_nil)) (pg_name (i := 3) sc_chosen.nd rfl (Or.inl rfl))
      (pss_one (ps_set (i := 2) sc_chosen.nd rfl (Or.inl rfl) (pe_op op_fdiv (pe_op op_mul (pv 2) (pe_op op_sub (pv 0) (pv 3))) (pe_op op_add (pv 3) pe_int)))))
      (pss_one (ps_ret (pv 2))))), ?_⟩
  refine ⟨_, rfl, m, rfl, by omega, by omega, for_range (lo := 0) (n := (m : Int).toNat) (fun i σ H' => ∃ y, σ = [some (.int n), some (.int m), some (.int (choN n i)), y] ∧ H' = H) ⟨none, rfl, rfl⟩ ?_ ?_⟩
  · intro i σ H' hi h
    obtain ⟨y, rfl, rfl⟩ := h
    have hi : i < m := by omega
    have e1 : (n : Int) - (0 + (i : Int)) = ((n - i : Nat) : Int) := by omega
    refine ⟨_, rfl, _, rfl, _, rfl, _, _, rfl, rfl, _, _, rfl, rfl, .inr ⟨by omega, by omega⟩, _, rfl, _, _, rfl, rfl, _, _, rfl, rfl, ⟨by show (0 : Int) < 0 + (i : Int) + 1; omega, by show 0 + (i : Int) + 1 < 1073741824; omega⟩, some (.int (0 + (i : Int))), ?_, rfl⟩
    have e2 : (choN n (i + 1) : Int) = (choN n i : Int) * ((n : Int) - (0 + (i : Int))) / (0 + (i : Int) + 1) := by
      rw [e1, Int.zero_add]
      rfl
    rw [e2]
    rfl
  · intro σ H' h
    obtain ⟨y, rfl, rfl⟩ := h
    rw [Int.toNat_natCast]
    exact ⟨_, rfl, q⟩

end

section
variable {P : Program} {w : World} {K : PySem.W.Frag} {mg : Str → Option Value} {base : Heap}
theorem sc_common : FnScope ["one", "other", "rest"] ["one", "other"] (defScope s_common) := ⟨rfl, rfl, rfl, by decide +kernel, rfl, by decide +kernel, by decide +kernel⟩
def sp_common : Sp := fun vs H Q _ => ∃ a b : Nat, vs = [.int a, .int b] ∧ Q (.int (Nat.gcd a b)) H
theorem ok_common (T : Txt K mg) : Cal P w K mg base CX0 1 "common" ["one", "other"] sp_common := by
  refine cal_mk T.d_common sc_common ?_ (fun _ _ _ _ _ _ us hl => match us, hl with | [_, _], _ => rfl) (fun f cdv A outer s H vs Q E hr h => ?_)
  · intro vs H Q E h
    obtain ⟨n, m, rfl, _⟩ := h
    rfl
  obtain ⟨n, m, rfl, q⟩ := h
  refine ⟨_, (pss_cons (ps_while PassesOwn.never (pt_cmpR op_gt (pv 1) pe_int (nomark _))
      (pss_cons (ps_set (i := 2) sc_common.nd rfl (Or.inl rfl) (pe_op op_mod (pv 0) (pv 1)))
      (pss_cons (ps_set (i := 0) sc_common.nd rfl (Or.inl rfl) (pv 1))
      (pss_one (ps_set (i := 1) sc_common.nd rfl (Or.inl rfl) (pv 2))))))
      (pss_one (ps_ret (pv 0)))), ?_⟩
  refine ⟨fun k σ H' => ∃ (a b : Nat) (y : Option V), σ = [some (.int a), some (.int b), y] ∧ H' = H ∧ k = b ∧ Nat.gcd a b = Nat.gcd n m, ⟨_, n, m, none, rfl, rfl, rfl, rfl⟩, fun k σ H' hW => ?_⟩
  obtain ⟨a, b, y, rfl, rfl, rfl, hg⟩ := hW
  refine ⟨_, rfl, _, _, rfl, rfl, _, rfl, ite2 (fun c => ?_) (fun c => ?_)⟩
  · have c' : (0 : Int) < (k : Int) := of_decide_eq_true c
    have hk : 0 < k := by omega
    refine ⟨fun σ' H2 => ∃ (b' : Nat) (y : Option V), b' = a % k ∧ σ' = [some (.int k), some (.int b'), y] ∧ H2 = H', fun σ' H2 h => ?_, ?_⟩
    · obtain ⟨b', y, rfl, e1, e2⟩ := h
      refine ⟨a % k, Nat.mod_lt _ hk, k, a % k, y, e1, e2, rfl, ?_⟩
      rw [← hg, Nat.gcd_comm a k, Nat.gcd_rec k a, Nat.gcd_comm]
    · exact ⟨_, rfl, _, rfl, _, _, rfl, rfl, (by show (0 : Int) < (k : Int); omega), _, rfl, _, rfl, _, _, rfl, rfl, rfl⟩
  · have c' : ¬ (0 : Int) < (k : Int) := fun h => c (decide_eq_true h)
    obtain rfl : k = 0 := by omega
    rw [← hg, Nat.gcd_zero_right] at q
    exact ⟨_, rfl, q⟩

end

section
variable {P : Program} {w : World} {K : PySem.W.Frag} {mg : Str → Option Value} {base : Heap}
theorem sc_rings_many : FnScope ["coins", "stair", "rest", "total", "turns", "alike", "block"] ["coins"] (defScope s_rings_many) := ⟨rfl, rfl, rfl, by decide +kernel, rfl, by decide +kernel, by decide +kernel⟩
theorem ring_fit {s r t : Nat} (hs : 1 ≤ s) (hr : r ≤ s) : 1 ≤ Nat.gcd s t ∧ Nat.gcd s t ≤ s ∧ 1 ≤ s / Nat.gcd s t ∧ s / Nat.gcd s t ≤ s ∧ r / (s / Nat.gcd s t) ≤ Nat.gcd s t := by
  have h0 : 0 < Nat.gcd s t := Nat.gcd_pos_of_pos_left t hs
  have hd := Nat.gcd_dvd_left s t
  have h1 := Nat.le_of_dvd hs hd
  have h2 := Nat.div_pos h1 h0
  refine ⟨h0, h1, h2, Nat.div_le_self _ _, ?_⟩
  have h3 : r / (s / Nat.gcd s t) ≤ s / (s / Nat.gcd s t) := Nat.div_le_div_right hr
  rw [Nat.div_div_self hd (by omega)] at h3
  exact h3
def sp_rings_many : Sp := fun vs H Q _ => ∃ n : Nat, vs = [.int n] ∧ 1 ≤ n ∧ n ≤ 2000 ∧ Q (.int (ringsN (stair n) (restOf n))) H
theorem ok_rings_many (T : Txt K mg) : Cal P w K mg base CX0 2 "rings_many" ["coins"] sp_rings_many := by
  have C_chosen := ok_chosen (P := P) (w := w) (base := base) T
  have C_common := ok_common (P := P) (w := w) (base := base) T
  have C_must_count := ok_must_count (P := P) (w := w) (base := base) T
  have C_stair_of := ok_stair_of (P := P) (w := w) (base := base) T
  refine cal_mk T.d_rings_many sc_rings_many ?_ (fun _ _ _ _ _ _ us hl => match us, hl with | [_], _ => rfl) (fun f cdv A outer s H vs Q E hr h => ?_)
  · intro vs H Q E h
    obtain ⟨n, rfl, _⟩ := h
    rfl
  obtain ⟨n, rfl, h1, h2, q⟩ := h
  refine ⟨_, (pss_cons (ps_expr (pe_callF C_must_count (hr.mono (by decide)) (pa_cons (pv 0) (pa_cons pe_int pa_nil))))
      (pss_cons (ps_set (i := 1) sc_rings_many.nd rfl (Or.inl rfl) (pe_callF C_stair_of (hr.mono (by decide)) (pa_cons (pv 0) pa_nil)))
      (pss_cons (ps_set (i := 2) sc_rings_many.nd rfl (Or.inl rfl) (pe_op op_sub (pv 0) (pe_op op_fdiv (pe_op op_mul (pv 1) (pe_op op_sub (pv 1) pe_int)) pe_int)))
      (pss_cons (ps_set (i := 3) sc_rings_many.nd rfl (Or.inl rfl) pe_int)
      (pss_cons (ps_for PassesOwn.never rfl (pi_range1 (by rfl) T.m_range (pa_cons (pv 1) pa_nil)) (pg_name (i := 4) sc_rings_many.nd rfl (Or.inl rfl))
      (pss_cons (ps_set (i := 5) sc_rings_many.nd rfl (Or.inl rfl) (pe_callF C_common (hr.mono (by decide)) (pa_cons (pv 1) (pa_cons (pv 4) pa_nil))))
      (pss_cons (ps_set (i := 6) sc_rings_many.nd rfl (Or.inl rfl) (pe_op op_fdiv (pv 1) (pv 5)))
      (pss_one (ps_if (pt_cmpR op_eq (pe_op op_mod (pv 2) (pv 6)) pe_int (nomark _))
      (pss_one (ps_set (i := 3) sc_rings_many.nd rfl (Or.inl rfl) (pe_op op_add (pv 3) (pe_callF C_chosen (hr.mono (by decide)) (pa_cons (pv 5) (pa_cons (pe_op op_fdiv (pv 2) (pv 6)) pa_nil)))))) pss_nil)))))
      (pss_one (ps_ret (pe_op op_fdiv (pv 3) (pv 1))))))))), ?_⟩
  obtain ⟨r1, r2, r3⟩ := rest_spec h1
  have hs := stair_le h1 (b := 63) (by omega) (by omega)
  have hs1 := (stair_spec h1).1
  refine ⟨_, rfl, n, 2000, rfl, by omega, by omega, _, rfl, n, rfl, h1, by omega, ?_⟩
  generalize hst : stair n = S at *
  generalize hro : restOf n = R at *
  have e1 : (n : Int) - (S : Int) * ((S : Int) - 1) / 2 = (R : Int) := by
    have : (S : Int) * ((S : Int) - 1) = ((S * (S - 1) : Nat) : Int) := by
      rw [Int.natCast_mul]
      congr 1
      omega
    rw [this]
    omega
  refine ⟨_, rfl, _, rfl, _, rfl, _, _, rfl, rfl, _, _, rfl, rfl, .inl ⟨by omega, by omega⟩, _, _, rfl, rfl, ⟨by decide, by decide⟩, _, _, rfl, rfl, ?_⟩
  refine ⟨_, rfl, S, rfl, by omega, by omega, for_range (lo := 0) (n := (S : Int).toNat) (fun i σ H' => ∃ y1 y2 y3, σ = [some (.int n), some (.int S), some (.int ((n : Int) - (S : Int) * ((S : Int) - 1) / 2)), some (.int (sumTo (ringT S R) i)), y1, y2, y3] ∧ H' = H) ⟨none, none, none, rfl, rfl⟩ ?_ ?_⟩
  · intro i σ H' hi h
    obtain ⟨y1, y2, y3, rfl, rfl⟩ := h
    rw [e1]
    obtain ⟨f1, f2, f3, f4, f5⟩ := ring_fit (t := i) hs1 r2
    refine ⟨_, rfl, _, rfl, S, i, by rw [Int.zero_add] <;> rfl, ?_⟩
    have ht : sumTo (ringT S R) (i + 1) = sumTo (ringT S R) i + ringT S R i := rfl
    rw [ht]
    unfold ringT
    generalize hgc : Nat.gcd S i = A at *
    refine ⟨_, rfl, _, rfl, _, _, rfl, rfl, ⟨by show (0 : Int) < (A : Int); omega, by show (A : Int) < 1073741824; omega⟩, ?_⟩
    have hb : (S : Int) / (A : Int) = ((S / A : Nat) : Int) := rfl
    refine ⟨_, rfl, _, rfl, _, _, rfl, rfl, (by show (0 : Int) < ((S / A : Nat) : Int); omega), rfl, _, rfl, ite2 (fun c => ?_) (fun c => ?_)⟩
    · have c' : ((R % (S / A) : Nat) : Int) = 0 := V.int.inj (of_decide_eq_true c)
      rw [if_pos (by omega)]
      refine ⟨_, rfl, _, rfl, _, rfl, _, rfl, _, _, rfl, rfl, ⟨by show (0 : Int) < ((S / A : Nat) : Int); omega, by show ((S / A : Nat) : Int) < 1073741824; omega⟩, A, R / (S / A), rfl, f5, by omega, _, _, rfl, rfl, ?_⟩
      exact ⟨_, _, _, rfl, rfl⟩
    · have c' : ¬ ((R % (S / A) : Nat) : Int) = 0 := fun e => c (decide_eq_true (congrArg V.int e))
      rw [if_neg (by omega)]
      exact ⟨_, _, _, rfl, rfl⟩
  · intro σ H' h
    obtain ⟨y1, y2, y3, rfl, rfl⟩ := h
    rw [Int.toNat_natCast]
    exact ⟨_, rfl, _, rfl, _, _, rfl, rfl, ⟨by show (0 : Int) < (S : Int); omega, by show (S : Int) < 1073741824; omega⟩, q⟩

end

section
variable {P : Program} {w : World} {K : PySem.W.Frag} {mg : Str → Option Value} {base : Heap}
theorem sc_law_common : FnScope ["one", "other", "rest"] ["one", "other"] (defScope s_law_common) := ⟨rfl, rfl, rfl, by decide +kernel, rfl, by decide +kernel, by decide +kernel⟩
def sp_law_common : Sp := fun vs H Q _ => ∃ a b : Nat, vs = [.int a, .int b] ∧ Q (.int (Nat.gcd a b)) H
theorem ok_law_common (T : Txt K mg) : Cal P w K mg base CX0 1 "_law_common" ["one", "other"] sp_law_common := by
  refine cal_mk T.d_law_common sc_law_common ?_ (fun _ _ _ _ _ _ us hl => match us, hl with | [_, _], _ => rfl) (fun f cdv A outer s H vs Q E hr h => ?_)
  · intro vs H Q E h
    obtain ⟨n, m, rfl, _⟩ := h
    rfl
  obtain ⟨n, m, rfl, q⟩ := h
  refine ⟨_, (pss_cons (ps_while PassesOwn.never (pt_cmpR op_gt (pv 1) pe_int (nomark _))
      (pss_cons (ps_set (i := 2) sc_law_common.nd rfl (Or.inl rfl) (pe_op op_mod (pv 0) (pv 1)))
      (pss_cons (ps_set (i := 0) sc_law_common.nd rfl (Or.inl rfl) (pv 1))
      (pss_one (ps_set (i := 1) sc_law_common.nd rfl (Or.inl rfl) (pv 2))))))
      (pss_one (ps_ret (pv 0)))), ?_⟩
  refine ⟨fun k σ H' => ∃ (a b : Nat) (y : Option V), σ = [some (.int a), some (.int b), y] ∧ H' = H ∧ k = b ∧ Nat.gcd a b = Nat.gcd n m, ⟨_, n, m, none, rfl, rfl, rfl, rfl⟩, fun k σ H' hW => ?_⟩
  obtain ⟨a, b, y, rfl, rfl, rfl, hg⟩ := hW
  refine ⟨_, rfl, _, _, rfl, rfl, _, rfl, ite2 (fun c => ?_) (fun c => ?_)⟩
  · have c' : (0 : Int) < (k : Int) := of_decide_eq_true c
    have hk : 0 < k := by omega
    refine ⟨fun σ' H2 => ∃ (b' : Nat) (y : Option V), b' = a % k ∧ σ' = [some (.int k), some (.int b'), y] ∧ H2 = H', fun σ' H2 h => ?_, ?_⟩
    · obtain ⟨b', y, rfl, e1, e2⟩ := h
      refine ⟨a % k, Nat.mod_lt _ hk, k, a % k, y, e1, e2, rfl, ?_⟩
      rw [← hg, Nat.gcd_comm a k, Nat.gcd_rec k a, Nat.gcd_comm]
    · exact ⟨_, rfl, _, rfl, _, _, rfl, rfl, (by show (0 : Int) < (k : Int); omega), _, rfl, _, rfl, _, _, rfl, rfl, rfl⟩
  · have c' : ¬ (0 : Int) < (k : Int) := fun h => c (decide_eq_true h)
    obtain rfl : k = 0 := by omega
    rw [← hg, Nat.gcd_zero_right] at q
    exact ⟨_, rfl, q⟩

end

section
variable {P : Program} {w : World} {K : PySem.W.Frag} {mg : Str → Option Value} {base : Heap}
theorem sc_law_chosen : FnScope ["all_of", "some", "total", "k"] ["all_of", "some"] (defScope s_law_chosen) := ⟨rfl, rfl, rfl, by decide +kernel, rfl, by decide +kernel, by decide +kernel⟩
def sp_law_chosen : Sp := fun vs H Q _ => ∃ a k : Nat, vs = [.int a, .int k] ∧ k ≤ a ∧ a ≤ 100000 ∧ Q (.int (choN a k)) H
theorem ok_law_chosen (T : Txt K mg) : Cal P w K mg base CX0 1 "_law_chosen" ["all_of", "some"] sp_law_chosen := by
  refine cal_mk T.d_law_chosen sc_law_chosen ?_ (fun _ _ _ _ _ _ us hl => match us, hl with | [_, _], _ => rfl) (fun f cdv A outer s H vs Q E hr h => ?_)
  · intro vs H Q E h
    obtain ⟨n, m, rfl, _⟩ := h
    rfl
  obtain ⟨n, m, rfl, h1, h2, q⟩ := h
  refine ⟨_, (pss_cons (ps_set (i := 2) sc_law_chosen.nd rfl (Or.inl rfl) pe_int)
      (pss_cons (ps_for PassesOwn.never rfl (pi_range1 (by rfl) T.m_range (pa_cons (pv 1) pa_nil)) (pg_name (i := 3) sc_law_chosen.nd rfl (Or.inl rfl))
      (pss_one (ps_set (i := 2) sc_law_chosen.nd rfl (Or.inl rfl) (pe_op op_fdiv (pe_op op_mul (pv 2) (pe_op op_sub (pv 0) (pv 3))) (pe_op op_add (pv 3) pe_int)))))
      (pss_one (ps_ret (pv 2))))), ?_⟩
  refine ⟨_, rfl, m, rfl, by omega, by omega, for_range (lo := 0) (n := (m : Int).toNat) (fun i σ H' => ∃ y, σ = [some (.int n), some (.int m), some (.int (choN n i)), y] ∧ H' = H) ⟨none, rfl, rfl⟩ ?_ ?_⟩
  · intro i σ H' hi h
    obtain ⟨y, rfl, rfl⟩ := h
    have hi : i < m := by omega
    have e1 : (n : Int) - (0 + (i : Int)) = ((n - i : Nat) : Int) := by omega
    refine ⟨_, rfl, _, rfl, _, rfl, _, _, rfl, rfl, _, _, rfl, rfl, .inr ⟨by omega, by omega⟩, _, rfl, _, _, rfl, rfl, _, _, rfl, rfl, ⟨by show (0 : Int) < 0 + (i : Int) + 1; omega, by show 0 + (i : Int) + 1 < 1073741824; omega⟩, some (.int (0 + (i : Int))), ?_, rfl⟩
    have e2 : (choN n (i + 1) : Int) = (choN n i : Int) * ((n : Int) - (0 + (i : Int))) / (0 + (i : Int) + 1) := by
      rw [e1, Int.zero_add]
      rfl
    rw [e2]
    rfl
  · intro σ H' h
    obtain ⟨y, rfl, rfl⟩ := h
    rw [Int.toNat_natCast]
    exact ⟨_, rfl, q⟩

end

/-! ### the law -/
def spLaw (K : PySem.W.Frag) : Sp := fun vs H Q _ => ∃ (a : Addr) (ns : List Int), vs = [.ref a] ∧ SL K H a ns ∧ ns.length ≤ 63 ∧ ∀ H', Q (.bl true) H'
theorem nat_of {z : Int} {m : Int} (h : 0 < m) : ∃ n : Nat, 1 + z % m = (n : Int) ∧ 1 ≤ n ∧ (n : Int) ≤ m := by
  have h1 := Int.emod_nonneg z (show m ≠ 0 by omega)
  have h2 := Int.emod_lt_of_pos z h
  exact ⟨(1 + z % m).toNat, by omega, by omega, by omega⟩

section
variable {P : Program} {w : World} {K : PySem.W.Frag} {mg : Str → Option Value} {base : Heap}
theorem sc_law : FnScope ["script", "coins", "stair", "ones", "total", "part", "free", "k", "found"] ["script"] (defScope s_law) := ⟨rfl, rfl, rfl, by decide +kernel, rfl, by decide +kernel, by decide +kernel⟩
theorem rings_law {n : Nat} (h1 : 1 ≤ n) (h2 : n ≤ 2000) : ((ringsN (stair n) (restOf n) : Nat) : Int) * ((stair n : Nat) : Int) = ((sumTo (partT (stair n) (restOf n)) (stair n) : Nat) : Int) := by
  obtain ⟨r1, r2, r3⟩ := rest_spec h1
  have hs := stair_le h1 (b := 63) (by omega) (by omega)
  rw [← burn hs r1 r2, Int.natCast_mul]
theorem ok_law_at (T : Txt K mg) {f : Addr} {fd : FuncData} (F : FunD K "law" "law" (defArgs s_law) (defBody s_law) (defScope s_law) [] [] f fd) : FnOk P w K mg base CX0 3 f fd ["script"] (spLaw K) := by
  have C_law_cell := ok_law_cell (P := P) (w := w) (base := base) T
  have C_law_chosen := ok_law_chosen (P := P) (w := w) (base := base) T
  have C_law_common := ok_law_common (P := P) (w := w) (base := base) T
  have C_law_whole := ok_law_whole (P := P) (w := w) (base := base) T
  have C_rings_many := ok_rings_many (P := P) (w := w) (base := base) T
  refine F.ok sc_law (fun vs H Q E h => ?_) (fun cdv A outer s H vs Q E hr h => ?_)
  · obtain ⟨a, ns, rfl, _⟩ := h
    rfl
  obtain ⟨a, ns, rfl, hS, hlen, q⟩ := h
  refine ⟨_, PSs.nox ((pss_cons (ps_set (i := 1) sc_law.nd rfl (Or.inl rfl) (pe_op op_add pe_int (pe_op op_mod (pe_callF C_law_cell (hr.mono (by decide)) (pa_cons (pv 0) (pa_cons pe_int pa_nil))) pe_int)))
      (pss_cons (ps_if (pt_cmpR op_eq (pe_op op_mod (pe_callF C_law_cell (hr.mono (by decide)) (pa_cons (pv 0) (pa_cons pe_int pa_nil))) pe_int) pe_int (nomark _))
      (pss_one (ps_set (i := 1) sc_law.nd rfl (Or.inl rfl) (pe_op op_add pe_int (pe_op op_mod (pe_callF C_law_cell (hr.mono (by decide)) (pa_cons (pv 0) (pa_cons pe_int pa_nil))) pe_int)))) pss_nil)
      (pss_cons (ps_set (i := 2) sc_law.nd rfl (Or.inl rfl) pe_int)
      (pss_cons (ps_while PassesOwn.never (pt_cmpR op_lt (pe_op op_mul (pv 2) (pe_op op_add (pv 2) pe_int)) (pe_op op_mul pe_int (pv 1)) (nomark _))
      (pss_one (ps_set (i := 2) sc_law.nd rfl (Or.inl rfl) (pe_op op_add (pv 2) pe_int))))
      (pss_cons (ps_set (i := 3) sc_law.nd rfl (Or.inl rfl) (pe_op op_sub (pv 1) (pe_op op_fdiv (pe_op op_mul (pv 2) (pe_op op_sub (pv 2) pe_int)) pe_int)))
      (pss_cons (ps_set (i := 4) sc_law.nd rfl (Or.inl rfl) pe_int)
      (pss_cons (ps_for PassesOwn.never rfl (pi_range2 (by rfl) T.m_range (pa_cons pe_int (pa_cons (pe_op op_add (pv 2) pe_int) pa_nil))) (pg_name (i := 5) sc_law.nd rfl (Or.inr rfl))
      (pss_one (ps_if (PW.pt (pw_and (pt_cmpR op_eq (pe_op op_mod (pv 2) (pv 5)) pe_int (nomark _)) (pw_and1 (pt_cmpR op_eq (pe_op op_mod (pv 3) (pv 5)) pe_int (nomark _)))))
      (pss_cons (ps_set (i := 6) sc_law.nd rfl (Or.inl rfl) (pe_callB call_len_seq (by rfl) T.m_len PySem.boot_len (pa_cons (pe_lc (own := [("k", 7)]) (g := gName 7) rfl sc_law.nd (pi_range2 (by rfl) T.m_range (pa_cons pe_int (pa_cons (pe_op op_add (pv 5) pe_int) pa_nil))) (blkOk_by (own := [("k", 7)]) (N := ["script", "coins", "stair", "ones", "total", "part", "free", "k", "found"]) (sc := defScope s_law) (by decide +kernel)) (fun _ _ _ _ _ => pg_name (i := 7) sc_law.nd rfl (Or.inl rfl)) (fun _ _ _ _ _ => (pts_one (pt_cmpR op_eq (pe_callF C_law_common (hr.mono (by decide)) (pa_cons (pv 7) (pa_cons (pv 5) pa_nil))) pe_int (nomark _)))) (fun _ _ _ _ _ => (pv 7))) pa_nil)))
      (pss_one (ps_set (i := 4) sc_law.nd rfl (Or.inl rfl) (pe_op op_add (pv 4) (pe_op op_mul (pv 6) (pe_callF C_law_chosen (hr.mono (by decide)) (pa_cons (pe_op op_fdiv (pv 2) (pv 5)) (pa_cons (pe_op op_fdiv (pv 3) (pv 5)) pa_nil)))))))) pss_nil)))
      (pss_cons (ps_set (i := 8) sc_law.nd rfl (Or.inl rfl) (pe_callF C_rings_many (hr.mono (by decide)) (pa_cons (pv 1) pa_nil)))
      (pss_one (ps_ret (pe_and (pe_callF C_law_whole (hr.mono (by decide)) (pa_cons (pv 8) pa_nil)) (pe_one (pe_cmpR op_eq (pe_op op_mul (pv 8) (pv 2)) (pv 4) (nomark _))))))))))))))), ?_⟩
  refine ⟨_, rfl, a, ns, 0, rfl, hS, by omega, fun z => ⟨_, _, rfl, rfl, (by show (0 : Int) < 2000; decide), _, _, rfl, rfl, ?_⟩⟩
  refine ⟨_, rfl, a, ns, 1, rfl, hS, by omega, fun z1 => ⟨_, _, rfl, rfl, (by show (0 : Int) < 3; decide), rfl, _, rfl, ite2 (fun _ => ?w1) (fun _ => ?w2)⟩⟩
  case' w1 =>
    refine ⟨_, rfl, a, ns, 0, rfl, hS, by omega, fun z2 => ⟨_, _, rfl, rfl, (by show (0 : Int) < 60; decide), _, _, rfl, rfl, ?_⟩⟩
    obtain ⟨n, en, n1, n2⟩ := nat_of (z := z2) (m := 60) (by decide)
    obtain ⟨c0, ec0⟩ : ∃ c : Int, 1 + z2 % 60 = c := ⟨_, rfl⟩
  case' w2 =>
    obtain ⟨n, en, n1, n2⟩ := nat_of (z := z) (m := 2000) (by decide)
    obtain ⟨c0, ec0⟩ : ∃ c : Int, 1 + z % 2000 = c := ⟨_, rfl⟩
  all_goals
    have hn : n ≤ 2000 := by omega
    obtain rfl : c0 = (n : Int) := ec0.symm.trans en
    clear n2
    obtain ⟨r1, r2, r3⟩ := rest_spec n1
    have hs := stair_le n1 (b := 63) (by omega) (by omega)
    have hs1 := (stair_spec n1).1
    have hlaw := rings_law n1 hn
    -- the stair
    refine ⟨fun m σ H' => ∃ s : Nat, σ = [some (.ref a), some (.int n), some (.int s), none, none, none, none, none, none] ∧ H' = H ∧ m = 2 * n + 2 - s ∧ 1 ≤ s ∧ (s - 1) * s < 2 * n, ⟨_, 1, by rw [← en] <;> rfl, rfl, rfl, Nat.le_refl _, by omega⟩, fun m σ H' hW => ?_⟩
    clear en ec0
    obtain ⟨s, rfl, rfl, rfl, g1, g2⟩ := hW
    have g3 : s ≤ 2 * n + 1 := by
      have := Nat.mul_le_mul_left (s - 1) g1
      omega
    refine ⟨_, rfl, _, rfl, _, _, rfl, rfl, _, _, rfl, rfl, .inl ⟨by omega, by omega⟩, _, rfl, _, _, rfl, rfl, .inl ⟨by decide, by decide⟩, _, _, rfl, rfl, _, rfl, ite2 (fun c => ?_) (fun c => ?_)⟩
    · have c' : (s : Int) * ((s : Int) + 1) < 2 * (n : Int) := of_decide_eq_true c
      have c2 : s * (s + 1) < 2 * n := by exact_mod_cast c'
      refine ⟨fun σ' H2 => ∃ s' : Nat, s' = s + 1 ∧ σ' = [some (.ref a), some (.int n), some (.int s'), none, none, none, none, none, none] ∧ H2 = H', fun σ' H2 h => ?_, ?_⟩
      · obtain ⟨s', rfl, e1, e2⟩ := h
        exact ⟨2 * n + 2 - (s + 1), by omega, s + 1, e1, e2, rfl, by omega, by rw [Nat.add_sub_cancel]; exact c2⟩
      · exact ⟨_, rfl, _, _, rfl, rfl, s + 1, rfl, rfl, rfl⟩
    · have c' : ¬ (s : Int) * ((s : Int) + 1) < 2 * (n : Int) := fun h => c (decide_eq_true h)
      have c2 : 2 * n ≤ s * (s + 1) := by
        have : ¬ s * (s + 1) < 2 * n := fun h => c' (by exact_mod_cast h)
        omega
      obtain rfl := stair_uniq n1 g1 g2 c2
      clear c c' c2 g2 g3
      generalize hst : stair n = S at *
      generalize hro : restOf n = R at *
      have e1 : (n : Int) - (S : Int) * ((S : Int) - 1) / 2 = (R : Int) := by
        have : (S : Int) * ((S : Int) - 1) = ((S * (S - 1) : Nat) : Int) := by
          rw [Int.natCast_mul]
          congr 1
          omega
        rw [this]
        omega
      refine ⟨_, rfl, _, rfl, _, rfl, _, _, rfl, rfl, _, _, rfl, rfl, .inl ⟨by omega, by omega⟩, _, _, rfl, rfl, ⟨by decide, by decide⟩, _, _, rfl, rfl, ?_⟩
      refine ⟨_, rfl, _, _, rfl, rfl, 1, (S : Int) + 1, rfl, ⟨by decide, by decide, by omega, by omega⟩, for_range (lo := 1) (n := ((S : Int) + 1 - 1).toNat) (fun i σ H' => ∃ y1 y2 y3, σ = [some (.ref a), some (.int n), some (.int S), some (.int ((n : Int) - (S : Int) * ((S : Int) - 1) / 2)), some (.int (sumTo (partT S R) i)), y1, y2, y3, none] ∧ SL K H' a ns) ⟨none, none, none, rfl, hS⟩ ?_ ?_⟩
      · intro i σ H' hi h
        obtain ⟨y1, y2, y3, rfl, hS'⟩ := h
        have hi : i < S := by omega
        rw [e1]
        have ei : (1 : Int) + (i : Int) = ((i + 1 : Nat) : Int) := by omega
        have ht : sumTo (partT S R) (i + 1) = sumTo (partT S R) i + partT S R i := rfl
        rw [ht]
        unfold partT
        rw [ei]
        refine ⟨_, rfl, _, rfl, _, _, rfl, rfl, (by show (0 : Int) < ((i + 1 : Nat) : Int); omega), rfl, _, rfl, ite2 (fun c => ?_) (fun c => ?_)⟩
        · have c' : ((S % (i + 1) : Nat) : Int) = 0 := V.int.inj (of_decide_eq_true c)
          refine ⟨_, rfl, _, rfl, _, _, rfl, rfl, (by show (0 : Int) < ((i + 1 : Nat) : Int); omega), rfl, _, rfl, ite2 (fun d => ?_) (fun d => ?_)⟩
          · have d' : ((R % (i + 1) : Nat) : Int) = 0 := V.int.inj (of_decide_eq_true d)
            rw [if_pos ⟨by omega, by omega⟩]
            -- free
            refine ⟨_, rfl, _, _, rfl, rfl, 1, ((i + 1 : Nat) : Int) + 1, rfl, ⟨by decide, by decide, by omega, by omega⟩, fun D nD => lc_range (lo := 1) (n := (((i + 1 : Nat) : Int) + 1 - 1).toNat)
              (fun j H2 => Same H' H2 ∧ ∃ is : List V, H2 D = some (.lst is) ∧ is.length = sumTo (fun k => if Nat.gcd (k + 1) (i + 1) = 1 then 1 else 0) j ∧ is.length ≤ j) ⟨same_new nD _, [], upd_same, rfl, Nat.le_refl _⟩ ?_ ?_⟩
            · intro j H2 hj h
              obtain ⟨sm, is, eD, hlen, hle⟩ := h
              have ej : (1 : Int) + (j : Int) = ((j + 1 : Nat) : Int) := by omega
              have hj2 : j < i + 1 := by omega
              rw [ej]
              refine ⟨rfl, _, rfl, _, rfl, j + 1, i + 1, rfl, rfl, _, rfl, ?_⟩
              have hts : sumTo (fun k => if Nat.gcd (k + 1) (i + 1) = 1 then 1 else 0) (j + 1) = sumTo (fun k => if Nat.gcd (k + 1) (i + 1) = 1 then 1 else 0) j + (if Nat.gcd (j + 1) (i + 1) = 1 then 1 else 0) := rfl
              refine ite2 (fun k => ?_) (fun k => ?_)
              · have k' : ((Nat.gcd (j + 1) (i + 1) : Nat) : Int) = 1 := V.int.inj (of_decide_eq_true k)
                refine ⟨_, rfl, _, eD, smallL (by omega), same_mut sm nD _, _, upd_same, ?_, by rw [List.length_append, List.length_singleton]; omega⟩
                rw [hts, if_pos (by omega), List.length_append, List.length_singleton, hlen]
              · have k' : ¬ ((Nat.gcd (j + 1) (i + 1) : Nat) : Int) = 1 := fun e => k (decide_eq_true (congrArg V.int e))
                refine ⟨sm, is, eD, ?_, by omega⟩
                rw [hts, if_neg (by omega), hlen]
                rfl
            · intro H2 h
              obtain ⟨sm, is, eD, hlen, hle⟩ := h
              have en2 : (((i + 1 : Nat) : Int) + 1 - 1).toNat = i + 1 := by omega
              rw [en2] at hlen hle
              have hfree : is.length = freeN (i + 1) := hlen
              refine ⟨D, _, rfl, .inl (sq eD), ?_⟩
              rw [hfree]
              refine ⟨_, rfl, _, rfl, _, rfl, _, rfl, _, _, rfl, rfl, ⟨by show (0 : Int) < ((i + 1 : Nat) : Int); omega, by show ((i + 1 : Nat) : Int) < 1073741824; omega⟩, _, rfl, _, rfl, _, _, rfl, rfl, ⟨by show (0 : Int) < ((i + 1 : Nat) : Int); omega, by show ((i + 1 : Nat) : Int) < 1073741824; omega⟩, S / (i + 1), R / (i + 1), rfl, Nat.div_le_div_right r2, by have := Nat.div_le_self S (i + 1); omega, ?_⟩
              refine ⟨_, _, rfl, rfl, .inl ⟨by omega, by omega⟩, _, _, rfl, rfl, ?_⟩
              exact ⟨some (.int ((i + 1 : Nat) : Int)), some (.int (freeN (i + 1))), y3, rfl, sm.seq hS'⟩
          · have d' : ¬ ((R % (i + 1) : Nat) : Int) = 0 := fun e => d (decide_eq_true (congrArg V.int e))
            rw [if_neg (by omega)]
            exact ⟨_, _, _, rfl, hS'⟩
        · have c' : ¬ ((S % (i + 1) : Nat) : Int) = 0 := fun e => c (decide_eq_true (congrArg V.int e))
          rw [if_neg (by omega)]
          exact ⟨_, _, _, rfl, hS'⟩
      · intro σ H2 h
        obtain ⟨y1, y2, y3, rfl, hS'⟩ := h
        have en2 : ((S : Int) + 1 - 1).toNat = S := by omega
        rw [en2]
        refine ⟨_, rfl, n, rfl, n1, hn, ?_⟩
        rw [hst, hro]
        refine ⟨_, rfl, _, rfl, _, rfl, ?_⟩
        refine ⟨_, rfl, _, rfl, _, _, rfl, rfl, .inr ⟨by omega, by omega⟩, _, rfl, rfl, ?_⟩
        have e : decide (V.int (((ringsN S R : Nat) : Int) * ((S : Nat) : Int)) = V.int ((sumTo (partT S R) S : Nat) : Int)) = true := decide_eq_true (congrArg V.int hlaw)
        show Q (.bl (decide (V.int (((ringsN S R : Nat) : Int) * ((S : Nat) : Int)) = V.int ((sumTo (partT S R) S : Nat) : Int)))) _
        rw [e]
        exact q _

end

/-! ### the head: facts by names, the run -/
def dd_stair_of : He.DefD := ⟨("stair_of", none), "stair_of", "stair_of", defArgs s_stair_of, defBody s_stair_of, defScope s_stair_of, [], []⟩
def dd_must_count : He.DefD := ⟨("must_count", none), "must_count", "must_count", defArgs s_must_count, defBody s_must_count, defScope s_must_count, [], []⟩
def dd_chosen : He.DefD := ⟨("chosen", none), "chosen", "chosen", defArgs s_chosen, defBody s_chosen, defScope s_chosen, [], []⟩
def dd_common : He.DefD := ⟨("common", none), "common", "common", defArgs s_common, defBody s_common, defScope s_common, [], []⟩
def dd_rings_many : He.DefD := ⟨("rings_many", none), "rings_many", "rings_many", defArgs s_rings_many, defBody s_rings_many, defScope s_rings_many, [], []⟩
def dd_law_cell : He.DefD := ⟨("_law_cell", none), "_law_cell", "_law_cell", defArgs s_law_cell, defBody s_law_cell, defScope s_law_cell, [], []⟩
def dd_law_whole : He.DefD := ⟨("_law_whole", none), "_law_whole", "_law_whole", defArgs s_law_whole, defBody s_law_whole, defScope s_law_whole, [], []⟩
def dd_law_common : He.DefD := ⟨("_law_common", none), "_law_common", "_law_common", defArgs s_law_common, defBody s_law_common, defScope s_law_common, [], []⟩
def dd_law_chosen : He.DefD := ⟨("_law_chosen", none), "_law_chosen", "_law_chosen", defArgs s_law_chosen, defBody s_law_chosen, defScope s_law_chosen, [], []⟩
def dd_law : He.DefD := ⟨("law", none), "law", "law", defArgs s_law, defBody s_law, defScope s_law, [], []⟩
def fn : List He.DefD := [dd_stair_of, dd_must_count, dd_chosen, dd_common, dd_rings_many, dd_law_cell, dd_law_whole, dd_law_common, dd_law_chosen, dd_law]
def fa : List He.Fa := [.glo "stair_of", .glo "must_count", .glo "chosen", .glo "common", .glo "rings_many", .glo "_law_cell", .glo "_law_whole", .glo "_law_common", .glo "_law_chosen", .glo "law", .free "bool", .free "int", .free "isinstance", .free "len", .free "range"]
abbrev R : PySem.W.OpenRow := PySem.W.OpenLaw.row PySem.Challenge.rw_pilewheel_k15_rings_counted
abbrev hk : PySem.W.Hook := He.hookD 4 fa fn
def ob (s : PySem.W.SharedT) : He.AlD := He.obsDG 4 fa fn (HandSHeadRun.getT s)
theorem ob_eq (s : PySem.W.SharedT) : ob s = hk.obs s.abs := He.obsDG_eq (HandSHeadRun.getT_eq s)
def loose : List PySem.Str := ["PileError", "NoNumber", "stair_of", "must_count", "chosen", "common", "rings_many", "_law_cell", "_law_whole", "_law_common", "_law_chosen"]
theorem run (w : World) : HandSHeadRun.RunEq R (PySem.W.view R.prog [15]) hk ob 4000 loose w := by
  intro os
  kernel_rfl
theorem facts {P : Program} {w : World} {K : PySem.W.Frag} {h : Heap} {mg : Str → Option Value} {f : Addr} (X : K.In h) (G : h.Ns mainGlobals mg) (hfa : mg ("law" : Str) = some (.ref f)) (c : He.SaysD fa fn K) :
    ∃ fd : FuncData, (∀ (s : Shared) (v : Value), BindsTo s fd ⟨[v], []⟩ [("script", v)]) ∧ ∀ base : Heap, K.In base → base.Ns mainGlobals mg → FnOk P w K mg base CX0 3 f fd ["script"] (spLaw K) := by
  have T : Txt K mg := {
      d_stair_of := by
        obtain ⟨fd, F⟩ := c.def_ 0 (d := dd_stair_of) rfl
        exact ⟨fd, F, He.glo_ok X G (c.fact 0 (f := .glo "stair_of") rfl)⟩,
      d_must_count := by
        obtain ⟨fd, F⟩ := c.def_ 1 (d := dd_must_count) rfl
        exact ⟨fd, F, He.glo_ok X G (c.fact 1 (f := .glo "must_count") rfl)⟩,
      d_chosen := by
        obtain ⟨fd, F⟩ := c.def_ 2 (d := dd_chosen) rfl
        exact ⟨fd, F, He.glo_ok X G (c.fact 2 (f := .glo "chosen") rfl)⟩,
      d_common := by
        obtain ⟨fd, F⟩ := c.def_ 3 (d := dd_common) rfl
        exact ⟨fd, F, He.glo_ok X G (c.fact 3 (f := .glo "common") rfl)⟩,
      d_rings_many := by
        obtain ⟨fd, F⟩ := c.def_ 4 (d := dd_rings_many) rfl
        exact ⟨fd, F, He.glo_ok X G (c.fact 4 (f := .glo "rings_many") rfl)⟩,
      d_law_cell := by
        obtain ⟨fd, F⟩ := c.def_ 5 (d := dd_law_cell) rfl
        exact ⟨fd, F, He.glo_ok X G (c.fact 5 (f := .glo "_law_cell") rfl)⟩,
      d_law_whole := by
        obtain ⟨fd, F⟩ := c.def_ 6 (d := dd_law_whole) rfl
        exact ⟨fd, F, He.glo_ok X G (c.fact 6 (f := .glo "_law_whole") rfl)⟩,
      d_law_common := by
        obtain ⟨fd, F⟩ := c.def_ 7 (d := dd_law_common) rfl
        exact ⟨fd, F, He.glo_ok X G (c.fact 7 (f := .glo "_law_common") rfl)⟩,
      d_law_chosen := by
        obtain ⟨fd, F⟩ := c.def_ 8 (d := dd_law_chosen) rfl
        exact ⟨fd, F, He.glo_ok X G (c.fact 8 (f := .glo "_law_chosen") rfl)⟩,
      m_bool := He.free_ok X G (c.fact 10 (f := .free "bool") rfl),
      m_int := He.free_ok X G (c.fact 11 (f := .free "int") rfl),
      m_isinstance := He.free_ok X G (c.fact 12 (f := .free "isinstance") rfl),
      m_len := He.free_ok X G (c.fact 13 (f := .free "len") rfl),
      m_range := He.free_ok X G (c.fact 14 (f := .free "range") rfl) }
  obtain ⟨fd, F⟩ := c.def_ 9 (d := dd_law) rfl
  have e := hfa.symm.trans (He.glo_ok X G (c.fact 9 (f := .glo "law") rfl))
  cases e
  have b := FunD.bindsA (ps := ["script"]) F fun _ _ _ _ _ _ us hl => match us, hl with | [_], _ => rfl
  exact ⟨fd, fun s v => b s [v] rfl, fun base _ _ => ok_law_at T F⟩

end PW
open PySem PySem.W PySem.Calls PyProof.Rows
set_option maxRecDepth 100000 in
set_option maxHeartbeats 0 in
theorem PySem.Challenge.cw_pilewheel_k15_rings_counted_holds : PySem.Challenge.rw_pilewheel_k15_rings_counted.Holds := by
  w_on; o_law
  refine HandSHeadRun.head_any (r := OpenLaw.row PySem.Challenge.rw_pilewheel_k15_rings_counted) (q := view (OpenLaw.row PySem.Challenge.rw_pilewheel_k15_rings_counted).prog [15]) (H := PW.hk) (ob := PW.ob) (M := 4000) (loose := PW.loose) (d := HandSHeadRun.topDef (OpenLaw.row PySem.Challenge.rw_pilewheel_k15_rings_counted).prog 15) (kwd := []) PW.ob_eq
    (by kernel_rfl) (fun s => by kernel_rfl) PW.run (by kernel_rfl) (by kernel_rfl) (by kernel_rfl) (by rfl) (by first | assumption | decide +kernel) (by decide +kernel) ⟨rfl, rfl, rfl, rfl, rfl, by decide +kernel⟩ ?hw ?hc
  case hw => w_witness2
  case hc =>
    refine L2.walk_ofE (l := PySem.Challenge.rw_pilewheel_k15_rings_counted) (n := 63) (k := 3) (x := "script") (CX := L2.CX0) rfl (by decide) (by kernel_rfl) ⟨rfl, by decide, by decide⟩ ?F (fun _ _ _ _ z => z)
    intro w mg fa h Y G hmg0
    obtain ⟨K, KX, c⟩ := Y
    have hmg : mg ("law" : PySem.Str) = some (.ref fa) := by
      have e : (HandSHeadRun.topDef (OpenLaw.row PySem.Challenge.rw_pilewheel_k15_rings_counted).prog 15).name = ("law" : PySem.Str) := by kernel_rfl
      rw [← e]
      exact hmg0
    obtain ⟨fd, hb, hF⟩ := PW.facts (P := (PySem.Challenge.rw_pilewheel_k15_rings_counted).prog) (w := w) KX G hmg c
    exact ⟨K, fd, PW.spLaw K, KX, hb, fun H a ns hl _ hS => ⟨a, ns, rfl, hS, hl, fun _ => rfl⟩, hF⟩
