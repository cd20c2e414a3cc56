import PyProof.Rows.All
import Wide.All
import OpenK.AllK
import Wide.FinOn
import Lean
import PySem.Challenge.RW_nn0259_01
set_option Elab.async false
set_option compiler.extract_closed false
set_option genInjectivity false
set_option genSizeOf false
set_option linter.unusedVariables false
set_option linter.unusedSimpArgs false
section
open PySem PySem.W PyProof.Rows
set_option Elab.async false
namespace Mine
/-- the text without its top's plain assignments -/
noncomputable def vw : Program := { PySem.Challenge.rw_nn0259_01.row.prog with main := { PySem.Challenge.rw_nn0259_01.row.prog.main with body := PySem.Challenge.rw_nn0259_01.row.prog.main.body.filter fun s => match s with | .Assign .. => false | _ => true } }
set_option maxRecDepth 100000 in
set_option maxHeartbeats 2000000 in
theorem hop (H : Hook) {d : DefRec} {kwd : List (Str × Expr)} (left : LeftO PySem.Challenge.rw_nn0259_01.row.prog vw [] (fun s => xlAt vw [] s && recOk (RowW.records (OpenRow.toRowW PySem.Challenge.rw_nn0259_01.row)) s) H.obs H.val 2086)
    (hdef : defOf vw PySem.Challenge.rw_nn0259_01.row.name = some (d, kwd)) (hp : PySem.Challenge.rw_nn0259_01.row.prog.theDef PySem.Challenge.rw_nn0259_01.row.name = some (d.params, d.body, d.scope)) (hk : kwWritten? d.params.kwonlyargs d.params.kw_defaults = some kwd)
    (k1 : PySem.Challenge.rw_nn0259_01.row.wellSaid = true) (hw : PySem.Challenge.rw_nn0259_01.row.toRowW.promised) (call : WalkO vw [] (XL vw []) H.says PySem.Challenge.rw_nn0259_01.row.toRowW d kwd fun f vs => PySem.call f vs) : PySem.Challenge.rw_nn0259_01.row.Holds :=
  holds_open (XP := XL vw []) left H.of H.keeps (fun s e => xl_of s (Bool.and_eq_true_iff.mp e).1) XL.keeps hdef hp hk (fun s e => recFacts_of (Bool.and_eq_true_iff.mp e).2) (by rfl) k1 (by decide +kernel) ⟨rfl, rfl, rfl, rfl, rfl, by decide +kernel⟩ hw call
local macro_rules | `(tactic| o_head $H) => `(tactic| (refine hop $H ?hl (by rfl) (by rfl) (by rfl) (by first | assumption | decide +kernel) ?hw ?hc; (case hl => (intro w; kernel_rfl))))
set_option maxRecDepth 100000 in
set_option maxHeartbeats 2000000 in
open_top hd for PySem.Challenge.rw_nn0259_01
end Mine
end
section
/-! plain facts on lists of ints: no program in sight -/
namespace Mine
theorem z_add (i j : Nat) : ((i : Int) + (j : Int)).toNat = i + j := rfl
theorem z_ab1 (a b : Nat) : ((a : Int) + (b : Int) - 1).toNat = a + b - 1 := Int.toNat_sub (a + b) 1
theorem z_pred (n : Nat) : ((n : Int) - 1).toNat = n - 1 := Int.toNat_sub n 1
theorem z_pred' (n : Nat) : (-1 + (n : Int)).toNat = n - 1 := by rw [Int.add_comm]; exact z_pred n
theorem z_int (a b : Nat) : (a : Int) - (b : Int) + 1 = ((a + 1 : Nat) : Int) - (b : Int) := by omega
theorem z_if (x : Int) : (if x > 0 then x else 0).toNat = x.toNat := by
  split
  · rfl
  · exact (Int.toNat_of_nonpos (Int.not_lt.mp ‹_›)).symm
theorem z_ife (a b : Nat) : (if (a : Int) - (b : Int) + 1 > 0 then (a : Int) - (b : Int) + 1 else 0).toNat = a + 1 - b := by
  rw [z_if, z_int, Int.toNat_sub]
theorem z_dn (a b : Nat) : (((a : Int) - (b : Int) - -1).toNat : Int) = ((a + 1 - b : Nat) : Int) := by
  rw [Int.sub_neg, z_int, Int.toNat_sub]
theorem z_l1 {a b c : Nat} (h : a ≤ b - 1) (hb : b < c) : a < c := Nat.lt_of_le_of_lt (Nat.le_trans h (Nat.sub_le _ _)) hb
theorem z_l2 {m a b c : Nat} (h : m ≤ a + b) (ha : a < c) (hb : b < c) : m < c + c := Nat.lt_of_le_of_lt h (Nat.add_lt_add ha hb)
theorem z_i (i : Nat) : (0 + (i : Int) * 1) = i := by rw [Int.zero_add, Int.mul_one]
theorem z_i1 (i : Nat) : (1 + (i : Int) * 1) = ((i + 1 : Nat) : Int) := by rw [Int.mul_one, Int.add_comm]; rfl
theorem z_e0 (e : Nat) : (((e : Int) - 0).toNat : Int) = (e : Int) := by rw [Int.sub_zero]; rfl
theorem z_mxT {a b : Nat} (h : (b : Int) > a) : (((b : Int) - 0).toNat : Int) = ((max a b : Nat) : Int) := by
  rw [z_e0, Nat.max_eq_right (Nat.le_of_lt (Int.ofNat_lt.mp h))]
theorem z_mxF {a b : Nat} (h : ¬ (b : Int) > a) : (((a : Int) - 0).toNat : Int) = ((max a b : Nat) : Int) := by
  rw [z_e0, Nat.max_eq_left (Int.ofNat_le.mp (Int.not_lt.mp h))]
theorem z_mx {i a b : Nat} (h : i < max a b) (ha : a < 500) (hb : b < 500) : i ≤ 2000 := Nat.le_of_lt (Nat.lt_trans (Nat.lt_trans h (Nat.max_lt.mpr ⟨ha, hb⟩)) (by decide))
theorem z_q0 {q : Int} (h : 2 ≤ q ∧ q ≤ 5) : 0 < q := Int.lt_of_lt_of_le (by decide) h.1
theorem z_sub2 {i x n : Nat} (h : n ≤ x) : ((i : Int) - ((x : Int) - (n : Int))).toNat = i - (x - n) := by
  rw [← Int.ofNat_sub h]; exact Int.toNat_sub _ _
theorem m3 {m : Nat} {q : Int} (h : m = 1 ∨ m = 2 ∨ (m = 3 ∧ q = 2)) : m ≤ 3 := by
  rcases h with rfl | rfl | ⟨rfl, _⟩ <;> decide
theorem z_s (a j r : Nat) : a + (j + 1) + r = a + j + (r + 1) := by rw [← Nat.add_assoc a j 1, Nat.add_assoc (a + j) 1 r, Nat.add_comm 1 r]
theorem z_m1 (m : Nat) : (((m : Int) + 1 - 1).toNat : Int) = (m : Int) := by rw [Int.add_sub_cancel]; rfl
theorem z_mu {w a b c : Nat} (ha : 0 < a) (hb : 0 < b) (h : a + b = c) : w + (2 * a - 1) + (2 * b - 1) < w + (2 * c - 1) := by
  subst h
  rw [Nat.add_assoc]
  refine Nat.add_lt_add_left ?_ w
  obtain ⟨a, rfl⟩ := Nat.exists_eq_succ_of_ne_zero (Nat.ne_of_gt ha)
  obtain ⟨b, rfl⟩ := Nat.exists_eq_succ_of_ne_zero (Nat.ne_of_gt hb)
  show 2 * a + 1 + (2 * b + 1) < 2 * (a + 1 + (b + 1)) - 1
  omega
theorem z_tn {a b : Int} (h0 : 0 ≤ a) (h : a < b) : a.toNat < b.toNat := by
  obtain ⟨k, rfl⟩ := Int.eq_ofNat_of_zero_le h0
  exact Int.lt_toNat.mpr h
theorem z_at {a b i t : Nat} (hi : i < a + 1 - b) (h : t = a - b - i) : t + b + i = a := by
  have e : b + i ≤ a := Nat.le_of_lt_succ (Nat.add_comm i b ▸ Nat.add_lt_of_lt_sub hi)
  rw [h, Nat.sub_sub, Nat.add_assoc, Nat.sub_add_cancel e]
theorem z_at2 {a b i f : Nat} (hi : i < a + 1 - b) (h : f = a + 1 - b) : f + b = a + 1 := by
  rw [h, Nat.sub_add_cancel (Nat.le_of_lt (Nat.lt_of_sub_pos (Nat.lt_of_le_of_lt (Nat.zero_le i) hi)))]
noncomputable def trimL : List Int → List Int
  | [] => []
  | x :: r => match trimL r with
    | [] => if x = 0 then [] else [x]
    | y :: t => x :: y :: t

theorem trimL_snoc0 : ∀ l : List Int, trimL (l ++ [0]) = trimL l
  | [] => by simp [trimL]
  | x :: r => by
    show trimL (x :: (r ++ [0])) = _
    unfold trimL
    rw [trimL_snoc0 r]
theorem trimL_snoc {x : Int} (h : x ≠ 0) : ∀ l : List Int, trimL (l ++ [x]) = l ++ [x]
  | [] => by simp [trimL, h]
  | y :: r => by
    show trimL (y :: (r ++ [x])) = _
    unfold trimL
    rw [trimL_snoc h r]
    cases r <;> rfl
noncomputable def maddL (a b : List Int) (p : Int) : List Int := trimL ((List.range (max a.length b.length)).map fun i => (a.getD i 0 + b.getD i 0) % p)
theorem fm {a q : Int} (h : 2 ≤ q ∧ q ≤ 5) : a.fmod q = a % q := Int.fmod_eq_emod_of_nonneg a (by omega)
theorem getD_over {l : List Int} {i : Nat} (h : ¬ (i : Int) < l.length) : l.getD i 0 = 0 := by
  rw [List.getD_eq_getElem?_getD, List.getElem?_eq_none (by omega)]; rfl
noncomputable def mnegL (a : List Int) (p : Int) : List Int := a.map fun x => -x % p
noncomputable def mscaleL (a : List Int) (k p : Int) : List Int := trimL (a.map fun x => x * k % p)
noncomputable def msubL (a b : List Int) (p : Int) : List Int := maddL a (mnegL b p) p
/-- one turn of the inner loop of a product: f[at + spot] = (f[at + spot] + one * other) % p -/
noncomputable def mulStep (one p : Int) (at' : Nat) (f : List Int) (x : Int × Nat) : List Int := f.set (at' + x.2) ((f.getD (at' + x.2) 0 + one * x.1) % p)
noncomputable def mulRow (b : List Int) (p : Int) (f : List Int) (x : Int × Nat) : List Int := if x.1 ≠ 0 then b.zipIdx.foldl (mulStep x.1 p x.2) f else f
noncomputable def mmulL (a b : List Int) (p : Int) : List Int := if a.length = 0 ∨ b.length = 0 then [] else trimL (a.zipIdx.foldl (mulRow b p) (List.replicate (a.length + b.length - 1) 0))
theorem foldZ {α : Type} (f : α → Int × Nat → α) (a0 : α) {ns : List Int} {i : Nat} {n : Int} (h : ns[i]? = some n) : (ns.zipIdx.take (i + 1)).foldl f a0 = f ((ns.zipIdx.take i).foldl f a0) (n, i) := by
  have e : ns.zipIdx[i]? = some (n, i) := by simp [List.getElem?_zipIdx, h]
  rw [List.take_add_one, e]
  simp
theorem foldZ_all {α : Type} (f : α → Int × Nat → α) (a0 : α) (ns : List Int) : (ns.zipIdx.take ns.length).foldl f a0 = ns.zipIdx.foldl f a0 := by
  rw [List.take_of_length_le (by simp)]
theorem mulFold_len {one p : Int} {at' : Nat} (l : List (Int × Nat)) (f : List Int) : (l.foldl (mulStep one p at') f).length = f.length := by
  induction l generalizing f with
  | nil => rfl
  | cons x r ih => rw [List.foldl_cons, ih]; simp [mulStep]
theorem mulRow_of {b : List Int} {p one : Int} {i : Nat} {f g : List Int} (h : one ≠ 0) (e : g = (b.zipIdx.take b.length).foldl (mulStep one p i) f) : g = mulRow b p f (one, i) := by
  rw [e, foldZ_all]; unfold mulRow; rw [if_pos h]
theorem mulRow_zero {b : List Int} {p one : Int} {i : Nat} {f : List Int} (h : one = 0) : f = mulRow b p f (one, i) := by
  unfold mulRow; rw [if_neg (by simp [h])]
/-- what a has to be multiplied by to be 1 by m: m is 2, 3 or 5 -/
noncomputable def invL (a m : Int) : Int := if m = 5 then (if a = 2 then 3 else if a = 3 then 2 else a) else a
theorem inv_cases {a m : Int} (hm : m = 2 ∨ m = 3 ∨ m = 5) (ha : 1 ≤ a ∧ a < m) {P : Int → Int → Prop} (h12 : P 1 2) (h13 : P 1 3) (h23 : P 2 3) (h15 : P 1 5) (h25 : P 2 5) (h35 : P 3 5) (h45 : P 4 5) : P a m := by
  rcases hm with rfl | rfl | rfl
  · obtain rfl : a = 1 := by omega
    exact h12
  · obtain rfl | rfl : a = 1 ∨ a = 2 := by omega
    · exact h13
    · exact h23
  · obtain rfl | rfl | rfl | rfl : a = 1 ∨ a = 2 ∨ a = 3 ∨ a = 4 := by omega
    · exact h15
    · exact h25
    · exact h35
    · exact h45
theorem inv_gcd {a m : Int} (hm : m = 2 ∨ m = 3 ∨ m = 5) (ha : 1 ≤ a ∧ a < m) : ((Int.gcd a m : Nat) : Int) = 1 := by
  refine inv_cases hm ha (P := fun a m => ((Int.gcd a m : Nat) : Int) = 1) ?_ ?_ ?_ ?_ ?_ ?_ ?_ <;> decide
theorem inv_small {a m : Int} (hm : m = 2 ∨ m = 3 ∨ m = 5) (ha : 1 ≤ a ∧ a < m) : 0 ≤ invL a m ∧ invL a m < 5 := by
  refine inv_cases hm ha (P := fun a m => 0 ≤ invL a m ∧ invL a m < 5) ?_ ?_ ?_ ?_ ?_ ?_ ?_ <;> decide
theorem inv_mod {y z a m c k : Int} (h : 1 = y * a + z * m) (hc : a * c = 1 + m * k) : y % m = c % m := by
  have e : y + m * (y * k + z * c) = c := by
    calc y + m * (y * k + z * c) = y * (1 + m * k) + m * z * c := by
          rw [Int.mul_add y 1, Int.mul_one, Int.mul_left_comm y m k, Int.mul_assoc m z c, Int.add_assoc, ← Int.mul_add]
      _ = (y * a + z * m) * c := by rw [← hc, ← Int.mul_assoc, Int.mul_comm m z, ← Int.add_mul]
      _ = c := by rw [← h, Int.one_mul]
  rw [← Int.add_mul_emod_self_left y m (y * k + z * c), e]
theorem inv_spec {a m y z : Int} (hm : m = 2 ∨ m = 3 ∨ m = 5) (ha : 1 ≤ a ∧ a < m) (h : 1 = y * a + z * m) : y.fmod m = invL a m := by
  have e : y.fmod m = y % m := Int.fmod_eq_emod_of_nonneg y (by omega)
  rw [e]
  revert h
  exact inv_cases hm ha (P := fun a m => 1 = y * a + z * m → y % m = invL a m) (fun h => inv_mod (c := 1) (k := 0) h rfl) (fun h => inv_mod (c := 1) (k := 0) h rfl) (fun h => inv_mod (c := 2) (k := 1) h rfl) (fun h => inv_mod (c := 1) (k := 0) h rfl) (fun h => inv_mod (c := 3) (k := 1) h rfl) (fun h => inv_mod (c := 2) (k := 1) h rfl) (fun h => inv_mod (c := 4) (k := 3) h rfl)
theorem small6 {x : Int} (h : 0 ≤ x ∧ x ≤ 5) : ∃ k : Fin 6, x = (k.val : Int) := ⟨⟨x.toNat, by omega⟩, by simp; omega⟩
theorem fdiv_small {x u : Int} (hx : 0 ≤ x ∧ x ≤ 5) (hu : 0 ≤ u ∧ u ≤ 5) : 0 ≤ x.fdiv u ∧ x.fdiv u ≤ 5 := by
  obtain ⟨i, rfl⟩ := small6 hx
  obtain ⟨j, rfl⟩ := small6 hu
  revert i j; decide
theorem ext_step {x u : Int} (hx : 0 ≤ x ∧ x ≤ 5) (hu : 0 ≤ u ∧ u ≤ 5) (h : u ≠ 0) : 0 ≤ x - x.fdiv u * u ∧ x - x.fdiv u * u < u ∧ Int.gcd u (x - x.fdiv u * u) = Int.gcd x u := by
  obtain ⟨i, rfl⟩ := small6 hx
  obtain ⟨j, rfl⟩ := small6 hu
  revert i j; decide
theorem ext_lin {x y z u v w a b t : Int} (hx : x = y * a + z * b) (hu : u = v * a + w * b) : x - t * u = (y - t * v) * a + (z - t * w) * b := by
  rw [hx, hu, Int.sub_mul, Int.sub_mul, Int.mul_add, Int.mul_assoc, Int.mul_assoc]
  omega
noncomputable def subStep (num p : Int) (at' : Nat) (f : List Int) (x : Int × Nat) : List Int := f.set (at' + x.2) ((f.getD (at' + x.2) 0 - num * x.1) % p)
noncomputable def divNum (b : List Int) (p inv : Int) (at' : Nat) (r : List Int) : Int := r.getD (at' + b.length - 1) 0 * inv % p
noncomputable def divRest (b : List Int) (p inv : Int) (at' : Nat) (r : List Int) : List Int := if divNum b p inv at' r ≠ 0 then b.zipIdx.foldl (subStep (divNum b p inv at' r) p at') r else r
/-- (the quotient, the rest) behind i turns -/
noncomputable def divGo (a b : List Int) (p inv : Int) : Nat → List Int × List Int
  | 0 => (List.replicate (a.length + 1 - b.length) 0, a)
  | i + 1 => let c := divGo a b p inv i; let at' := a.length - b.length - i; (c.1.set at' (divNum b p inv at' c.2), divRest b p inv at' c.2)
noncomputable def lastL (b : List Int) : Int := b.getD (b.length - 1) 0
noncomputable def mdivL (a b : List Int) (p : Int) : List Int × List Int := let c := divGo a b p (invL (lastL b) p) (a.length + 1 - b.length); (trimL c.1, trimL (c.2.take (b.length - 1)))
theorem div_turn {a b fq fr gs : List Int} {p inv X : Int} {i at' : Nat} (h : (fq, fr) = divGo a b p inv i) (ha : at' = a.length - b.length - i) (hX : X = divNum b p inv at' fr) (h0 : X ≠ 0) (hg : gs = (b.zipIdx.take b.length).foldl (subStep X p at') fr) : (fq.set at' X, gs) = divGo a b p inv (i + 1) := by
  have e1 : (divGo a b p inv i).1 = fq := by rw [← h]
  have e2 : (divGo a b p inv i).2 = fr := by rw [← h]
  unfold divGo
  dsimp only
  rw [e1, e2, ← ha, ← hX, hg, foldZ_all]
  unfold divRest
  rw [← hX, if_pos h0]
theorem div_turn0 {a b fq fr : List Int} {p inv X : Int} {i at' : Nat} (h : (fq, fr) = divGo a b p inv i) (ha : at' = a.length - b.length - i) (hX : X = divNum b p inv at' fr) (h0 : X = 0) : (fq.set at' X, fr) = divGo a b p inv (i + 1) := by
  have e1 : (divGo a b p inv i).1 = fq := by rw [← h]
  have e2 : (divGo a b p inv i).2 = fr := by rw [← h]
  unfold divGo
  dsimp only
  rw [e1, e2, ← ha, ← hX]
  unfold divRest
  rw [← hX, if_neg (by simp [h0])]
theorem subFold_len {num p : Int} {at' : Nat} (l : List (Int × Nat)) (f : List Int) : (l.foldl (subStep num p at') f).length = f.length := by
  induction l generalizing f with
  | nil => rfl
  | cons x r ih => rw [List.foldl_cons, ih]; simp [subStep]
theorem take_pred {ns : List Int} {m : Int} (h0 : 0 < m) (h1 : m ≤ ns.length) : ns.take m.toNat = ns.take (m - 1).toNat ++ [ns.getD (m - 1).toNat 0] := by
  obtain ⟨k, rfl⟩ := Int.eq_succ_of_zero_lt h0
  rw [show ((k : Int) + 1 - 1).toNat = k from z_pred (k + 1)]
  show ns.take (k + 1) = _
  rw [List.take_add_one, List.getD_eq_getElem?_getD, List.getElem?_eq_getElem (Int.ofNat_le.mp h1)]
  rfl
theorem trim_step {ns : List Int} {m : Int} (h0 : 0 < m) (h1 : m ≤ ns.length) (hz : ns.getD (m - 1).toNat 0 = 0) (e : trimL (ns.take m.toNat) = trimL ns) : trimL (ns.take (m - 1).toNat) = trimL ns := by
  rw [take_pred h0 h1, hz, trimL_snoc0] at e
  exact e
theorem trim_end {ns : List Int} {m : Int} (h0 : 0 < m) (h1 : m ≤ ns.length) (hz : ns.getD (m - 1).toNat 0 ≠ 0) (e : trimL (ns.take m.toNat) = trimL ns) : ns.take m.toNat = trimL ns := by
  rw [← e, take_pred h0 h1, trimL_snoc hz]
theorem trim_end0 {ns : List Int} {m : Int} (h0 : ¬ 0 < m) (e : trimL (ns.take m.toNat) = trimL ns) : ns.take m.toNat = trimL ns := by
  have z : m.toNat = 0 := by omega
  rw [z] at e ⊢
  exact e
/-- the numbers of a polynomial by p -/
noncomputable def Dg (p : Int) (a : List Int) : Prop := ∀ x ∈ a, 0 ≤ x ∧ x < p
/-- a polynomial by p: its numbers, the last one not 0 -/
noncomputable def Po (p : Int) (a : List Int) : Prop := Dg p a ∧ (a ≠ [] → 1 ≤ lastL a)
theorem Dg.nil {p : Int} : Dg p [] := fun _ h => nomatch h
theorem Dg.sub {p : Int} {a b : List Int} (h : Dg p a) (hs : ∀ x ∈ b, x ∈ a) : Dg p b := fun x hx => h x (hs x hx)
theorem Dg.take {p : Int} {a : List Int} (h : Dg p a) (n : Nat) : Dg p (a.take n) := h.sub fun _ hx => List.mem_of_mem_take hx
theorem Dg.set {p x : Int} {a : List Int} (h : Dg p a) (hx : 0 ≤ x ∧ x < p) (n : Nat) : Dg p (a.set n x) := fun y hy => by
  rcases List.mem_or_eq_of_mem_set hy with hy | rfl
  · exact h y hy
  · exact hx
theorem Dg.zeros {p : Int} (hp : 0 < p) (n : Nat) : Dg p (List.replicate n 0) := fun x hx => by
  rw [(List.mem_replicate.mp hx).2]; omega
theorem Dg.mods {p : Int} (hp : 0 < p) {α : Type} (l : List α) (f : α → Int) : Dg p (l.map fun x => f x % p) := fun x hx => by
  obtain ⟨y, _, rfl⟩ := List.mem_map.mp hx
  exact ⟨Int.emod_nonneg _ (by omega), Int.emod_lt_of_pos _ hp⟩
theorem Dg.emod {p : Int} (hp : 0 < p) (x : Int) : 0 ≤ x % p ∧ x % p < p := ⟨Int.emod_nonneg _ (by omega), Int.emod_lt_of_pos _ hp⟩
theorem lastL_mem {a : List Int} (h : a ≠ []) : lastL a ∈ a := by
  unfold lastL
  have hl : a.length - 1 < a.length := by have := List.length_pos_iff.mpr h; omega
  rw [List.getD_eq_getElem?_getD, List.getElem?_eq_getElem hl]
  exact List.getElem_mem hl
theorem Po.last {p : Int} {a : List Int} (h : Po p a) (hn : a ≠ []) : 1 ≤ lastL a ∧ lastL a < p := ⟨h.2 hn, (h.1 _ (lastL_mem hn)).2⟩
theorem ne_of_len {a : List Int} (h : 0 < (a.length : Int)) : a ≠ [] := fun e => by rw [e] at h; simp at h
theorem Po.nil {p : Int} : Po p [] := ⟨Dg.nil, fun h => absurd rfl h⟩
theorem lastL_cons {x y : Int} {t : List Int} : lastL (x :: y :: t) = lastL (y :: t) := rfl
theorem trimL_po : ∀ {a : List Int} {p : Int}, Dg p a → Po p (trimL a)
  | [], _, _ => Po.nil
  | x :: r, p, h => by
    have hx := h x (.head _)
    have ih := trimL_po (a := r) (p := p) fun y hy => h y (.tail _ hy)
    unfold trimL
    cases e : trimL r with
    | nil =>
      dsimp only
      split
      · exact Po.nil
      · refine ⟨fun y hy => ?_, fun _ => ?_⟩
        · rw [List.mem_singleton.mp hy]; exact hx
        · show 1 ≤ x
          omega
    | cons y t =>
      rw [e] at ih
      refine ⟨fun z hz => ?_, fun _ => ?_⟩
      · rcases List.mem_cons.mp hz with rfl | hz
        · exact hx
        · exact ih.1 z hz
      · rw [lastL_cons]; exact ih.2 (by simp)
theorem trimL_len : ∀ a : List Int, (trimL a).length ≤ a.length
  | [] => by simp [trimL]
  | x :: r => by
    have ih := trimL_len r
    unfold trimL
    cases e : trimL r with
    | nil => dsimp only; split <;> simp
    | cons y t => rw [e] at ih; simp at ih ⊢; omega
theorem divGo_len (a b : List Int) (p inv : Int) : ∀ i, (divGo a b p inv i).1.length = a.length + 1 - b.length ∧ (divGo a b p inv i).2.length = a.length
  | 0 => by simp [divGo]
  | i + 1 => by
    have ih := divGo_len a b p inv i
    unfold divGo
    dsimp only
    refine ⟨by rw [List.length_set]; exact ih.1, ?_⟩
    unfold divRest
    split
    · rw [subFold_len]; exact ih.2
    · exact ih.2
theorem subFold_dg {num p : Int} {at' : Nat} (hp : 0 < p) : ∀ (l : List (Int × Nat)) (f : List Int), Dg p f → Dg p (l.foldl (subStep num p at') f)
  | [], _, h => h
  | x :: r, f, h => subFold_dg hp r _ (h.set (Dg.emod hp _) _)
theorem divGo_dg {a b : List Int} {p inv : Int} (hp : 0 < p) (ha : Dg p a) : ∀ i, Dg p (divGo a b p inv i).1 ∧ Dg p (divGo a b p inv i).2
  | 0 => ⟨Dg.zeros hp _, ha⟩
  | i + 1 => by
    have ih := divGo_dg (b := b) (inv := inv) hp ha i
    unfold divGo
    dsimp only
    refine ⟨ih.1.set (Dg.emod hp _) _, ?_⟩
    unfold divRest
    split
    · exact subFold_dg hp _ _ ih.2
    · exact ih.2
noncomputable def mrestL (a b : List Int) (p : Int) : List Int := (mdivL a b p).2
noncomputable def mquoL (a b : List Int) (p : Int) : List Int := (mdivL a b p).1
theorem mrestL_po {a b : List Int} {p : Int} (hp : 0 < p) (ha : Dg p a) : Po p (mrestL a b p) := trimL_po ((divGo_dg hp ha _).2.take _)
theorem mquoL_po {a b : List Int} {p : Int} (hp : 0 < p) (ha : Dg p a) : Po p (mquoL a b p) := trimL_po (divGo_dg hp ha _).1
theorem mrestL_len {a b : List Int} {p : Int} : (mrestL a b p).length ≤ b.length - 1 := by
  refine Nat.le_trans (trimL_len _) ?_
  rw [List.length_take]
  omega
theorem mquoL_len {a b : List Int} {p : Int} : (mquoL a b p).length ≤ a.length + 1 - b.length := by
  refine Nat.le_trans (trimL_len _) ?_
  rw [(divGo_len a b p _ _).1]
  omega
noncomputable def mmonicL (a : List Int) (p : Int) : List Int := if 0 < a.length then mscaleL a (invL (lastL a) p) p else []
theorem mscaleL_po {a : List Int} {k p : Int} (hp : 0 < p) : Po p (mscaleL a k p) := trimL_po (Dg.mods hp _ _)
theorem mscaleL_len {a : List Int} {k p : Int} : (mscaleL a k p).length ≤ a.length := by
  refine Nat.le_trans (trimL_len _) ?_
  rw [List.length_map]; exact Nat.le_refl _
theorem mmonicL_po {a : List Int} {p : Int} (hp : 0 < p) : Po p (mmonicL a p) := by
  unfold mmonicL; split
  · exact mscaleL_po hp
  · exact Po.nil
theorem mmonicL_len {a : List Int} {p : Int} : (mmonicL a p).length ≤ a.length := by
  unfold mmonicL; split
  · exact mscaleL_len
  · exact Nat.zero_le _
noncomputable def gcdGo (p : Int) : Nat → List Int → List Int → List Int
  | 0, a, _ => a
  | n + 1, a, b => if b.length = 0 then a else gcdGo p n b (mrestL a b p)
theorem gcdGo_fuel {p : Int} : ∀ (n m : Nat) (a b : List Int), b.length < n → b.length < m → gcdGo p n a b = gcdGo p m a b
  | 0, _, _, _, h, _ => absurd h (Nat.not_lt_zero _)
  | _, 0, _, _, _, h => absurd h (Nat.not_lt_zero _)
  | n + 1, m + 1, a, b, h1, h2 => by
    unfold gcdGo
    split
    · rfl
    · have := mrestL_len (a := a) (b := b) (p := p)
      exact gcdGo_fuel n m _ _ (by omega) (by omega)
noncomputable def mgcdL (a b : List Int) (p : Int) : List Int := mmonicL (gcdGo p (b.length + 1) a b) p
theorem gcd_turn {p : Int} {a b : List Int} (h : 0 < b.length) : gcdGo p (b.length + 1) a b = gcdGo p ((mrestL a b p).length + 1) b (mrestL a b p) := by
  have hl := mrestL_len (a := a) (b := b) (p := p)
  rw [show gcdGo p (b.length + 1) a b = gcdGo p b.length b (mrestL a b p) from by
    show (if b.length = 0 then a else gcdGo p b.length b (mrestL a b p)) = _
    rw [if_neg (by omega)]]
  exact gcdGo_fuel _ _ _ _ (by omega) (by omega)
theorem gcd_end {p : Int} {a b : List Int} (h : b.length = 0) : gcdGo p (b.length + 1) a b = a := by
  show (if b.length = 0 then a else _) = _
  rw [if_pos h]
theorem mulFold_dg {one p : Int} {at' : Nat} (hp : 0 < p) : ∀ (l : List (Int × Nat)) (f : List Int), Dg p f → Dg p (l.foldl (mulStep one p at') f)
  | [], _, h => h
  | x :: r, f, h => mulFold_dg hp r _ (h.set (Dg.emod hp _) _)
theorem mulRow_dg {b : List Int} {p : Int} (hp : 0 < p) : ∀ (l : List (Int × Nat)) (f : List Int), Dg p f → Dg p (l.foldl (mulRow b p) f)
  | [], _, h => h
  | x :: r, f, h => by
    refine mulRow_dg hp r _ ?_
    unfold mulRow
    split
    · exact mulFold_dg hp _ _ h
    · exact h
theorem mulRow_len {b : List Int} {p : Int} : ∀ (l : List (Int × Nat)) (f : List Int), (l.foldl (mulRow b p) f).length = f.length
  | [], _ => rfl
  | x :: r, f => by
    rw [List.foldl_cons, mulRow_len r]
    unfold mulRow
    split
    · exact mulFold_len _ _
    · rfl
theorem mmulL_po {a b : List Int} {p : Int} (hp : 0 < p) : Po p (mmulL a b p) := by
  unfold mmulL
  split
  · exact Po.nil
  · exact trimL_po (mulRow_dg hp _ _ (Dg.zeros hp _))
theorem mmulL_len {a b : List Int} {p : Int} : (mmulL a b p).length ≤ a.length + b.length := by
  unfold mmulL
  split
  · simp
  · refine Nat.le_trans (trimL_len _) ?_
    rw [mulRow_len, List.length_replicate]; omega
theorem maddL_po {a b : List Int} {p : Int} (hp : 0 < p) : Po p (maddL a b p) := trimL_po (Dg.mods hp _ _)
theorem maddL_len {a b : List Int} {p : Int} : (maddL a b p).length ≤ max a.length b.length := by
  refine Nat.le_trans (trimL_len _) ?_
  simp
theorem msubL_po {a b : List Int} {p : Int} (hp : 0 < p) : Po p (msubL a b p) := maddL_po hp
theorem msubL_len {a b : List Int} {p : Int} : (msubL a b p).length ≤ max a.length b.length := by
  refine Nat.le_trans maddL_len ?_
  unfold mnegL
  rw [List.length_map]; exact Nat.le_refl _
theorem one_po {p : Int} (hp : 2 ≤ p) : Po p [1] := ⟨fun x hx => by rw [List.mem_singleton.mp hx]; omega, fun _ => by decide⟩
noncomputable def sqL (f : List Int) (p : Int) (s : List Int) : List Int := mrestL (mmulL s s p) f p
noncomputable def powGo (f : List Int) (p : Int) : Nat → Nat → List Int → List Int → List Int
  | 0, _, fo, _ => fo
  | k + 1, n, fo, s => if n = 0 then fo else powGo f p k (n / 2) (if n % 2 = 1 then mrestL (mmulL fo s p) f p else fo) (if 0 < n / 2 then sqL f p s else s)
theorem powGo_fuel {f : List Int} {p : Int} : ∀ (k m n : Nat) (fo s : List Int), n < k → n < m → powGo f p k n fo s = powGo f p m n fo s
  | 0, _, _, _, _, h, _ => absurd h (Nat.not_lt_zero _)
  | _, 0, _, _, _, _, h => absurd h (Nat.not_lt_zero _)
  | k + 1, m + 1, n, fo, s, h1, h2 => by
    unfold powGo
    split
    · rfl
    · exact powGo_fuel k m _ _ _ (by omega) (by omega)
theorem pow_turn {f fo s : List Int} {p : Int} {n : Nat} (h : 0 < n) : powGo f p (n + 1) n fo s = powGo f p (n / 2 + 1) (n / 2) (if n % 2 = 1 then mrestL (mmulL fo s p) f p else fo) (if 0 < n / 2 then sqL f p s else s) := by
  show (if n = 0 then fo else powGo f p n (n / 2) _ _) = _
  rw [if_neg (by omega)]
  exact powGo_fuel _ _ _ _ _ (by omega) (by omega)
noncomputable def mpowL (a : List Int) (n : Nat) (f : List Int) (p : Int) : List Int := powGo f p (n + 1) n (mrestL [1] f p) (mrestL a f p)
/-- (found, square) behind i turns -/
noncomputable def trGo (a f : List Int) (p : Int) : Nat → List Int × List Int
  | 0 => ([], mrestL a f p)
  | i + 1 => let c := trGo a f p i; (maddL c.1 c.2 p, sqL f p c.2)
noncomputable def traceL (a : List Int) (many : Nat) (f : List Int) (p : Int) : List Int := (trGo a f p many).1
theorem sqL_po {f s : List Int} {p : Int} (hp : 0 < p) : Po p (sqL f p s) := mrestL_po hp (mmulL_po hp).1
theorem sqL_len {f s : List Int} {p : Int} : (sqL f p s).length ≤ f.length - 1 := mrestL_len
theorem trGo_po {a f : List Int} {p : Int} (hp : 0 < p) (ha : Dg p a) : ∀ i, Po p (trGo a f p i).1 ∧ Po p (trGo a f p i).2 ∧ (trGo a f p i).1.length ≤ f.length - 1 ∧ (trGo a f p i).2.length ≤ f.length - 1
  | 0 => ⟨Po.nil, mrestL_po hp ha, Nat.zero_le _, mrestL_len⟩
  | i + 1 => by
    have ih := trGo_po (f := f) hp ha i
    refine ⟨maddL_po hp, sqL_po hp, Nat.le_trans maddL_len ?_, sqL_len⟩
    omega
theorem fdiv2 {n : Int} (h : 0 < n) : (n.fdiv 2).toNat = n.toNat / 2 ∧ 0 ≤ n.fdiv 2 ∧ n.fdiv 2 < n := by
  rw [Int.fdiv_eq_ediv_of_nonneg n (by decide)]
  obtain ⟨k, rfl⟩ := Int.eq_ofNat_of_zero_le (Int.le_of_lt h)
  exact ⟨rfl, Int.natCast_nonneg (k / 2), Int.ofNat_lt.mpr (Nat.div_lt_self (Int.ofNat_lt.mp h) (by decide))⟩
theorem fdiv_dec {n : Int} (h : 0 < n) : (n.fdiv 2).toNat < n.toNat := by
  rw [(fdiv2 h).1]
  exact Nat.div_lt_self (Int.lt_toNat.mpr h) (by decide)
theorem fmod2 (n : Int) : n.fmod 2 = n % 2 := Int.fmod_eq_emod_of_nonneg n (by decide)
theorem pow_case {f x y X Y T : List Int} {p n : Int} (h0 : 0 < n) (hgo : powGo f p (n.toNat + 1) n.toNat x y = T) (hX : X = if n.toNat % 2 = 1 then mrestL (mmulL x y p) f p else x) (hY : Y = if 0 < n.toNat / 2 then sqL f p y else y) :
    powGo f p ((n.fdiv 2).toNat + 1) (n.fdiv 2).toNat X Y = T := by
  rw [(fdiv2 h0).1, hX, hY, ← pow_turn (by omega)]
  exact hgo
theorem odd_of {n : Int} (h0 : 0 < n) (h : n.fmod 2 = 1) : n.toNat % 2 = 1 := by
  obtain ⟨k, rfl⟩ := Int.eq_ofNat_of_zero_le (Int.le_of_lt h0)
  rw [fmod2] at h; exact Int.ofNat.inj h
theorem even_of {n : Int} (h0 : 0 < n) (h : n.fmod 2 ≠ 1) : ¬ n.toNat % 2 = 1 := by
  obtain ⟨k, rfl⟩ := Int.eq_ofNat_of_zero_le (Int.le_of_lt h0)
  rw [fmod2] at h; exact fun e => h (congrArg Int.ofNat e)
theorem pos_of {n : Int} (h0 : 0 < n) (h : 0 < n.fdiv 2) : 0 < n.toNat / 2 := by rw [← (fdiv2 h0).1]; exact Int.lt_toNat.mpr h
theorem npos_of {n : Int} (h0 : 0 < n) (h : ¬ 0 < n.fdiv 2) : ¬ 0 < n.toNat / 2 := by rw [← (fdiv2 h0).1]; exact fun e => h (Int.lt_toNat.mp e)
theorem pos_even {n : Int} (h0 : 0 < n) (h : n.fmod 2 ≠ 1) : 0 < n.toNat / 2 := by
  have h1 := even_of h0 h
  have h2 : 0 < n.toNat := Int.lt_toNat.mpr h0
  generalize n.toNat = k at h1 h2
  omega
theorem pow_zero {f x y : List Int} {p n : Int} (h : ¬ 0 < n) : powGo f p (n.toNat + 1) n.toNat x y = x := by
  have e : n.toNat = 0 := by omega
  rw [e]; rfl
noncomputable def cntGo (q : Int) : Nat → Nat → List Int
  | 0, _ => []
  | k + 1, n => if n = 0 then [] else ((n : Int) % q) :: cntGo q k (((n : Int) / q).toNat)
noncomputable def countedL (n : Nat) (q : Int) : List Int := trimL (cntGo q n n)
theorem div_lt {q : Int} (hq : 2 ≤ q) {n : Nat} (h : 0 < n) : ((n : Int) / q).toNat < n := by
  have h1 : (n : Int) / q < n := Int.ediv_lt_of_lt_mul (by omega) (by
    have : (n : Int) * 2 ≤ n * q := Int.mul_le_mul_of_nonneg_left hq (by omega)
    omega)
  omega
theorem cntGo_fuel {q : Int} (hq : 2 ≤ q) : ∀ (k m n : Nat), n ≤ k → n ≤ m → cntGo q k n = cntGo q m n
  | 0, 0, _, _, _ => rfl
  | 0, m + 1, n, h, _ => by
    obtain rfl : n = 0 := by omega
    simp [cntGo]
  | k + 1, 0, n, _, h => by
    obtain rfl : n = 0 := by omega
    simp [cntGo]
  | k + 1, m + 1, n, h1, h2 => by
    unfold cntGo
    split
    · rfl
    · have := div_lt hq (n := n) (by omega)
      rw [cntGo_fuel hq k m _ (by omega) (by omega)]
theorem cnt_turn {q n : Int} (hq : 2 ≤ q) (h : 0 < n) : cntGo q n.toNat n.toNat = (n % q) :: cntGo q (n / q).toNat (n / q).toNat := by
  obtain ⟨k, rfl⟩ : ∃ k : Nat, n = (k : Int) := ⟨n.toNat, by omega⟩
  rw [Int.toNat_natCast]
  have hl := div_lt hq (n := k) (by omega)
  cases k with
  | zero => omega
  | succ k =>
    rw [cntGo, if_neg (by omega), cntGo_fuel hq k (((k + 1 : Nat) : Int) / q).toNat _ (by omega) (Nat.le_refl _)]
theorem fd {a q : Int} (h : 2 ≤ q ∧ q ≤ 5) : a.fdiv q = a / q := Int.fdiv_eq_ediv_of_nonneg a (by omega)
theorem cnt_less {q n : Int} (hq : 2 ≤ q) (h : 0 < n) : (n / q).toNat < n.toNat := by
  have := div_lt hq (n := n.toNat) (by omega)
  rw [Int.toNat_of_nonneg (by omega)] at this
  exact this
theorem cnt_len {q n : Int} {fs : List Int} {e : Nat} (hq : 2 ≤ q) (h : 0 < n) (hl : fs.length + n.toNat ≤ e) : (fs ++ [n % q]).length + (n / q).toNat ≤ e := by
  have := cnt_less hq h
  rw [List.length_append, List.length_singleton]
  omega
/-- what is left of e behind i turns, and the digits that they gave -/
noncomputable def lcNum (q : Int) : Nat → Nat → Int
  | 0, e => e
  | i + 1, e => lcNum q i e / q
noncomputable def lcGo (q : Int) : Nat → Nat → List Int
  | 0, _ => []
  | i + 1, e => lcGo q i e ++ [lcNum q i e % q]
noncomputable def lcntL (e m : Nat) (q : Int) : List Int := lcGo q m e ++ [1]
theorem lcGo_len (q : Int) (e : Nat) : ∀ i, (lcGo q i e).length = i
  | 0 => rfl
  | i + 1 => by unfold lcGo; rw [List.length_append, lcGo_len q e i]; rfl
theorem drop_last {fs : List Int} (h : 0 < fs.length) : fs.dropLast ++ [lastL fs] = fs := by
  have hne : fs ≠ [] := List.length_pos_iff.mp h
  have e : lastL fs = fs.getLast hne := by
    unfold lastL
    rw [List.getD_eq_getElem?_getD, List.getElem?_eq_getElem (by omega), List.getLast_eq_getElem]
    rfl
  rw [e]
  exact List.dropLast_concat_getLast hne
theorem cut_turn {fs : List Int} (h : 0 < fs.length) (hz : lastL fs = 0) : trimL fs.dropLast = trimL fs := by
  have e := drop_last h
  rw [hz] at e
  rw [← trimL_snoc0 fs.dropLast, e]
theorem cut_end {fs : List Int} (h : 0 < fs.length) (hz : lastL fs ≠ 0) : trimL fs = fs := by
  have e := drop_last h
  have q := trimL_snoc hz fs.dropLast
  rw [e] at q
  exact q
theorem last_neg {fs : List Int} (h : 0 < fs.length) : fs.getD (-1 + (fs.length : Int)).toNat 0 = lastL fs := by
  unfold lastL; congr 1; exact z_pred' _
theorem mpowL_len {a f : List Int} {n : Nat} {p : Int} : ∀ (k n : Nat) (fo s : List Int), fo.length ≤ f.length - 1 → (powGo f p k n fo s).length ≤ f.length - 1
  | 0, _, _, _, h => h
  | k + 1, n, fo, s, h => by
    unfold powGo
    split
    · exact h
    · refine mpowL_len (a := a) (n := n) k _ _ _ ?_
      split
      · exact mrestL_len
      · exact h
theorem powGo_po {f : List Int} {p : Int} (hp : 0 < p) : ∀ (k n : Nat) (fo s : List Int), Po p fo → Po p (powGo f p k n fo s)
  | 0, _, _, _, h => h
  | k + 1, n, fo, s, h => by
    unfold powGo
    split
    · exact h
    · refine powGo_po hp k _ _ _ ?_
      split
      · exact mrestL_po hp (mmulL_po hp).1
      · exact h
/-- (p ** m - 1) // 2 -/
noncomputable def halfE (m : Nat) (p : Int) : Nat := (p.toNat ^ m - 1) / 2
noncomputable def splitPL (a : List Int) (m : Nat) (f : List Int) (p : Int) : List Int := if p = 2 then msubL (traceL a m f p) [1] p else msubL (mpowL a (halfE m p) f p) [1] p
theorem splitPL_po {a f : List Int} {m : Nat} {p : Int} (hp : 0 < p) : Po p (splitPL a m f p) := by
  unfold splitPL; split <;> exact msubL_po hp
theorem splitPL_len {a f : List Int} {m : Nat} {p : Int} (hp : 0 < p) (ha : Dg p a) : (splitPL a m f p).length ≤ max (f.length - 1) 1 := by
  unfold splitPL
  split
  · refine Nat.le_trans msubL_len ?_
    have := (trGo_po (f := f) hp ha m).2.2.1
    unfold traceL
    exact Nat.max_le.mpr ⟨Nat.le_trans this (Nat.le_max_left _ _), Nat.le_max_right _ _⟩
  · refine Nat.le_trans msubL_len ?_
    have : (mpowL a (halfE m p) f p).length ≤ f.length - 1 := mpowL_len (a := a) (n := 0) _ _ _ _ mrestL_len
    exact Nat.max_le.mpr ⟨Nat.le_trans this (Nat.le_max_left _ _), Nat.le_max_right _ _⟩
/-- a proper divisor: of a degree between -/
noncomputable def okG (f g : List Int) : Bool := decide (0 < (g.length : Int) - 1) && decide ((g.length : Int) - 1 < (f.length : Int) - 1)
noncomputable def splitOL (f : List Int) (m : Nat) (a : List Int) (p : Int) : Option (List Int) :=
  if okG f (mgcdL a f p) = true then some (mgcdL a f p) else
  if okG f (mgcdL (splitPL a m f p) f p) = true then some (mgcdL (splitPL a m f p) f p) else none
noncomputable def ltRow (b : List Int) (p : Int) (f : List Int) (x : Int × Nat) : List Int := b.zipIdx.foldl (mulStep x.1 p x.2) f
noncomputable def ltimesL (a b : List Int) (p : Int) : List Int := trimL (a.zipIdx.foldl (ltRow b p) (List.replicate (a.length + b.length) 0))
theorem half_eq {q : Int} {m : Nat} (hq : q = 3 ∨ q = 5) (hm : m = 1 ∨ m = 2 ∨ (m = 3 ∧ q = 2)) : (q ^ ((m : Nat) : Int).toNat - 1).fdiv 2 = ((halfE m q : Nat) : Int) ∧ halfE m q < 100 := by
  rcases hm with rfl | rfl | ⟨rfl, h⟩
  · rcases hq with rfl | rfl <;> decide
  · rcases hq with rfl | rfl <;> decide
  · omega
theorem gcdGo_len {p : Int} {n : Nat} : ∀ (k : Nat) (a b : List Int), a.length < n → b.length < n → (gcdGo p k a b).length < n
  | 0, _, _, h, _ => h
  | k + 1, a, b, h1, h2 => by
    unfold gcdGo
    split
    · exact h1
    · refine gcdGo_len k _ _ h2 (Nat.lt_of_le_of_lt mrestL_len ?_)
      omega
theorem mgcdL_len {a b : List Int} {p : Int} {n : Nat} (h1 : a.length < n) (h2 : b.length < n) : (mgcdL a b p).length < n :=
  Nat.lt_of_le_of_lt mmonicL_len (gcdGo_len _ _ _ h1 h2)
theorem okG_t {f g : List Int} (h1 : 0 < (g.length : Int) - 1) (h2 : (g.length : Int) - 1 < (f.length : Int) - 1) : okG f g = true := by
  unfold okG; rw [decide_eq_true h1, decide_eq_true h2]; rfl
theorem okG_f1 {f g : List Int} (h1 : ¬ 0 < (g.length : Int) - 1) : ¬ okG f g = true := by
  unfold okG; rw [decide_eq_false h1]; simp
theorem okG_f2 {f g : List Int} (h2 : ¬ (g.length : Int) - 1 < (f.length : Int) - 1) : ¬ okG f g = true := by
  unfold okG; rw [decide_eq_false h2]; simp
theorem sp_1 {f a : List Int} {m : Nat} {p : Int} (h : okG f (mgcdL a f p) = true) : splitOL f m a p = some (mgcdL a f p) := by
  unfold splitOL; rw [if_pos h]
theorem sp_2 {f a : List Int} {m : Nat} {p : Int} (h : ¬ okG f (mgcdL a f p) = true) (h2 : okG f (mgcdL (splitPL a m f p) f p) = true) : splitOL f m a p = some (mgcdL (splitPL a m f p) f p) := by
  unfold splitOL; rw [if_neg h, if_pos h2]
theorem sp_0 {f a : List Int} {m : Nat} {p : Int} (h : ¬ okG f (mgcdL a f p) = true) (h2 : ¬ okG f (mgcdL (splitPL a m f p) f p) = true) : splitOL f m a p = none := by
  unfold splitOL; rw [if_neg h, if_neg h2]
noncomputable def llRow (b : List Int) (p : Int) (x : List Int) : List Int := (List.range x.length).map fun i => (x.getD i 0 - (if x.length - b.length ≤ i then lastL x * b.getD (i - (x.length - b.length)) 0 else 0)) % p
noncomputable def llGo (b : List Int) (p : Int) : Nat → List Int → List Int
  | 0, x => x
  | k + 1, x => if x.length < b.length then x else llGo b p k (trimL (llRow b p x))
noncomputable def lleftL (a b : List Int) (p : Int) : List Int := llGo b p ((trimL a).length + 1) (trimL a)
theorem llRow_len {b x : List Int} {p : Int} : (llRow b p x).length = x.length := by simp [llRow]
theorem ll_less {b x : List Int} {p : Int} (hb : 0 < b.length) (h1 : lastL b = 1) (hx : ¬ x.length < b.length) : (trimL (llRow b p x)).length < x.length := by
  obtain ⟨k, hk⟩ : ∃ k, x.length = k + 1 := ⟨x.length - 1, (Nat.sub_add_cancel (Nat.lt_of_lt_of_le hb (Nat.not_lt.mp hx))).symm⟩
  have e : llRow b p x = ((List.range k).map fun i => (x.getD i 0 - (if x.length - b.length ≤ i then lastL x * b.getD (i - (x.length - b.length)) 0 else 0)) % p) ++ [0] := by
    unfold llRow
    rw [hk, List.range_succ, List.map_append, List.map_singleton]
    congr 2
    have h2 : k + 1 - b.length ≤ k := Nat.sub_le_of_le_add (Nat.add_le_add_left hb k)
    have h3 : k - (k + 1 - b.length) = b.length - 1 := by
      show k + 1 - 1 - (k + 1 - b.length) = _
      rw [Nat.sub_right_comm, Nat.sub_sub_self (hk ▸ Nat.not_lt.mp hx)]
    have h4 : x.getD k 0 = lastL x := by unfold lastL; rw [hk]; rfl
    rw [if_pos h2, h3, h4]
    have h5 : b.getD (b.length - 1) 0 = 1 := h1
    rw [h5, Int.mul_one, Int.sub_self]
    simp
  rw [e, trimL_snoc0, hk]
  refine Nat.lt_succ_of_le (Nat.le_trans (trimL_len _) ?_)
  simp
theorem ll_fuel {b : List Int} {p : Int} (hb : 0 < b.length) (h1 : lastL b = 1) : ∀ (n m : Nat) (x : List Int), x.length < n → x.length < m → llGo b p n x = llGo b p m x
  | 0, _, _, h, _ => absurd h (Nat.not_lt_zero _)
  | _, 0, _, _, h => absurd h (Nat.not_lt_zero _)
  | n + 1, m + 1, x, h2, h3 => by
    unfold llGo
    split
    · rfl
    · have := ll_less (p := p) hb h1 (by assumption)
      exact ll_fuel hb h1 n m _ (by omega) (by omega)
theorem ll_turn {b x : List Int} {p : Int} (hb : 0 < b.length) (h1 : lastL b = 1) (hx : ¬ x.length < b.length) : llGo b p (x.length + 1) x = llGo b p ((trimL (llRow b p x)).length + 1) (trimL (llRow b p x)) := by
  have hl := ll_less (p := p) hb h1 hx
  rw [show llGo b p (x.length + 1) x = llGo b p x.length (trimL (llRow b p x)) from by
    show (if x.length < b.length then x else llGo b p x.length (trimL (llRow b p x))) = _
    rw [if_neg hx]]
  exact ll_fuel hb h1 _ _ _ (by omega) (by omega)
theorem ll_end {b x : List Int} {p : Int} (hx : x.length < b.length) : llGo b p (x.length + 1) x = x := by
  show (if x.length < b.length then x else _) = _
  rw [if_pos hx]
theorem llRow_dg {b x : List Int} {p : Int} (hp : 0 < p) : Dg p (llRow b p x) := Dg.mods hp _ _
theorem q25 {q : Int} (hq : q = 2 ∨ q = 3 ∨ q = 5) : 2 ≤ q ∧ q ≤ 5 := by omega
theorem un_of {a k c : Nat} (h : a + 8 * k < c) (hk : 9 ≤ k) : a + 3 + 64 < c := by omega
end Mine

end
section
open PySem PySem.W PyProof.Rows PySem.Calls PySem.Spec
set_option Elab.async false
set_option maxRecDepth 100000
namespace Mine

noncomputable def Fill (_ : OpenLaw) (_ : Params → Frag) : Prop := True
abbrev PG : Program := PySem.Challenge.rw_nn0259_01.row.prog

/-- every object of h stands in h' as it stood -/
noncomputable def Kp (h h' : Heap) : Prop := ∀ b o, h.get? b = some o → h'.get? b = some o
theorem Kp.refl (h : Heap) : Kp h h := fun _ _ e => e
theorem Kp.trans {a b c : Heap} (x : Kp a b) (y : Kp b c) : Kp a c := fun _ _ e => y _ _ (x _ _ e)

/-- what a call of a def finds -/
structure Cx (w : World) (A : Around) (base : Heap) (outer : List Env) (p : Program) (loose : List Str) (mean : ExcName → Option Value) (mg mb : Str → Option Value) (d : Nat) (h : Heap) : Prop where
  B : Below A base outer h
  hd : A.handled = none
  dep : A.depth + d < recursionLimit
  un : A.units + 8 * d < cLine
  X : (Mine.hd.heap_39 w.params).In h
  T : Top p loose mean mg mb h

/-- a list of ints -/
noncomputable def LI (h : Heap) (l : Addr) (ns : List Int) : Prop := ∃ vs n, h.get? l = some (listOf vs.toArray n) ∧ IntsAre vs ns
theorem LI.keeps {h h' : Heap} {l : Addr} {ns : List Int} (x : LI h l ns) (k : Kp h h') : LI h' l ns := let ⟨vs, n, a, b⟩ := x; ⟨vs, n, k _ _ a, b⟩

/-- what a def that hands back a new list of ints has brought about -/
noncomputable def RetL (h h' : Heap) (r : Addr) (ns : List Int) : Prop := Kp h h' ∧ LI h' r ns ∧ h.get? r = none
theorem retL {s : Shared} {g h' : Heap} {L r : Addr} {m : Str → Option Value} {news : List (Addr × Obj)} {vs : List Value} {n : Nat} {ns ms : List Int} (hg : g = s.heap) (F : Fr g L h' m) (N : News g L h' news) (hm : (r, listOf vs.toArray n) ∈ news) (hi : IntsAre vs ns) (e : ns = ms) : RetL s.heap h' r ms := by
  subst e
  exact ⟨hg ▸ F.keep, ⟨vs, n, (N _ hm).1, hi⟩, hg ▸ (N _ hm).2.2⟩

theorem LI.list {h : Heap} {l : Addr} {ns : List Int} (x : LI h l ns) : ∃ vs, h.IsList l vs.toArray ∧ IntsAre vs ns := let ⟨vs, n, a, b⟩ := x; ⟨vs, ⟨_, a, rfl, n, rfl⟩, b⟩
theorem LI.news {g h : Heap} {L l : Addr} {news : List (Addr × Obj)} {vs : List Value} {n : Nat} {ns : List Int} (N : News g L h news) (hm : (l, listOf vs.toArray n) ∈ news) (hi : IntsAre vs ns) : LI h l ns := ⟨vs, n, (N _ hm).1, hi⟩
/-- a list of ints that stands in the base or on a ledger -/
noncomputable def LX (g : Heap) (led : List (Addr × Obj)) (l : Addr) (ns : List Int) : Prop := LI g l ns ∨ ∃ vs n, (l, listOf vs.toArray n) ∈ led ∧ IntsAre vs ns
theorem LX.base {g : Heap} {led : List (Addr × Obj)} {l : Addr} {ns : List Int} (x : LI g l ns) : LX g led l ns := .inl x
theorem LX.led {g : Heap} {led : List (Addr × Obj)} {l : Addr} {ns : List Int} {vs : List Value} {n : Nat} (hm : (l, listOf vs.toArray n) ∈ led) (hi : IntsAre vs ns) : LX g led l ns := .inr ⟨vs, n, hm, hi⟩
theorem LX.mono {g : Heap} {led led' : List (Addr × Obj)} {l : Addr} {ns : List Int} (x : LX g led l ns) (h : ∀ p ∈ led, p ∈ led') : LX g led' l ns := x.imp id fun ⟨vs, n, a, b⟩ => ⟨vs, n, h _ a, b⟩
/-- a list of ints on a ledger -/
noncomputable def LD (led : List (Addr × Obj)) (l : Addr) (ns : List Int) : Prop := ∃ vs n, (l, listOf vs.toArray n) ∈ led ∧ IntsAre vs ns
theorem LD.mk {led : List (Addr × Obj)} {l : Addr} {ns : List Int} {vs : List Value} {n : Nat} (hm : (l, listOf vs.toArray n) ∈ led) (hi : IntsAre vs ns) : LD led l ns := ⟨vs, n, hm, hi⟩
theorem LD.lx {g : Heap} {led : List (Addr × Obj)} {l : Addr} {ns : List Int} (x : LD led l ns) : LX g led l ns := .inr x
theorem LD.mono {led led' : List (Addr × Obj)} {l : Addr} {ns : List Int} (x : LD led l ns) (h : ∀ p ∈ led, p ∈ led') : LD led' l ns := let ⟨vs, n, a, b⟩ := x; ⟨vs, n, h _ a, b⟩
theorem LD.ret {s : Shared} {g h' : Heap} {L r : Addr} {m : Str → Option Value} {led news : List (Addr × Obj)} {ns ms : List Int} (x : LD led r ns) (hg : g = s.heap) (F : Fr g L h' m) (N : News g L h' news) (hs : ∀ p ∈ led, p ∈ news) (e : ns = ms) : RetL s.heap h' r ms := by
  obtain ⟨vs, n, a, b⟩ := x
  exact retL hg F N (hs _ a) b e
theorem LX.li {g h : Heap} {L l : Addr} {m : Str → Option Value} {led news : List (Addr × Obj)} {ns : List Int} (x : LX g led l ns) (F : Fr g L h m) (N : News g L h news) (hs : ∀ p ∈ led, p ∈ news) : LI h l ns :=
  x.elim (fun y => y.keeps F.keep) fun ⟨vs, n, a, b⟩ => ⟨vs, n, (N _ (hs _ a)).1, b⟩
theorem len_LI {w : World} {A : Around} {s : Shared} {E Q : Value → Shared → Prop} {l : Addr} {ns : List Int} (x : LI s.heap l ns) (hn : ns.length < 2000) (h : Q (.int ns.length (s.toks + 1)) { s with toks := s.toks + 1 + 1 }) :
    wpAny (model PG w) A (call (.builtin "len") [.ref l]) Q E s := by
  obtain ⟨vs, hl, hi⟩ := x.list
  have e : vs.toArray.size = ns.length := by rw [List.size_toArray]; exact hi.length
  exact call_len_list hl (by rw [e]; omega) (by rw [e]; exact h)
theorem last_LI {w : World} {A : Around} {s : Shared} {E Q : Value → Shared → Prop} {value slice : PySem.Expr} {l : Addr} {ns : List Int} {u : Tok} (x : LI s.heap l ns) (h1 : 0 < ns.length) (hz : ns.length < 2000) (h : ∀ t, Q (.int (lastL ns) t) s)
    (hs : subscripted slice false (.ref l) (.int (-1) u) = operate [.ref l, .int (-1) u] (getItem (.ref l) (.int (-1) u))) : wpAny (model PG w) A (subscriptTail value slice (.ref l) (.int (-1) u)) Q E s := by
  obtain ⟨vs, hl, hi⟩ := x.list
  refine item_list_ints_negR hl hi (by omega) (by omega) (by omega) ?_ hs
  intro t
  have e : ns.getD (-1 + (ns.length : Int)).toNat 0 = lastL ns := by unfold lastL; congr 1; omega
  rw [e]
  exact h t
theorem ne_LI {w : World} {A : Around} {s : Shared} {E Q : Value → Shared → Prop} {a b : Addr} {ns ms : List Int} (x : LI s.heap a ns) (y : LI s.heap b ms) (hu : A.units + 64 < cLine) (h : Q (.bool (!decide (ns = ms))) s) :
    wpAny (model PG w) A (compareOp .NotEq (.ref a) (.ref b)) Q E s := by
  obtain ⟨vs, hl, hi⟩ := x.list
  obtain ⟨us, hm, hj⟩ := y.list
  exact ne_intsK hl hi hm hj hu h
theorem eq_LI {w : World} {A : Around} {s : Shared} {E Q : Value → Shared → Prop} {a b : Addr} {ns ms : List Int} (x : LI s.heap a ns) (y : LI s.heap b ms) (hu : A.units + 64 < cLine) (h : Q (.bool (decide (ns = ms))) s) :
    wpAny (model PG w) A (compareOp .Eq (.ref a) (.ref b)) Q E s := by
  obtain ⟨vs, hl, hi⟩ := x.list
  obtain ⟨us, hm, hj⟩ := y.list
  exact eq_intsK hl hi hm hj hu h
theorem news_keeps {h₀ h h' : Heap} {L : Addr} {news : List (Addr × Obj)} (N : News h₀ L h news) (k : Kp h h') : News h₀ L h' news := fun p hp => ⟨k _ _ (N p hp).1, (N p hp).2⟩
theorem news_add {h₀ h h' : Heap} {L r : Addr} {m : Str → Option Value} {o : Obj} {news : List (Addr × Obj)} (F : Fr h₀ L h m) (N : News h₀ L h news) (k : Kp h h') (hr : h'.get? r = some o) (hf : h.get? r = none) : News h₀ L h' ((r, o) :: news) := by
  intro p hp
  rcases List.mem_cons.mp hp with rfl | hp
  · refine ⟨hr, fun e => ?_, ?_⟩
    · obtain ⟨oL, _, _, hL, _⟩ := F.ns
      have e' : r = L := e
      rw [e', hL] at hf; cases hf
    · cases q : h₀.get? r with
      | none => rfl
      | some o' => rw [F.keep _ _ q] at hf; cases hf
  · exact news_keeps N k p hp

theorem news_add2 {h₀ h h' : Heap} {L r a b : Addr} {m : Str → Option Value} {o oa ob : Obj} {news : List (Addr × Obj)} (F : Fr h₀ L h m) (N : News h₀ L h news) (k : Kp h h') (hr : h'.get? r = some o) (hf : h.get? r = none)
    (ha : h'.get? a = some oa) (fa : h.get? a = none) (hb : h'.get? b = some ob) (fb : h.get? b = none) : News h₀ L h' ((r, o) :: (a, oa) :: (b, ob) :: news) := by
  have x := news_add F N k hr hf
  have y := news_add F N k ha fa
  have z := news_add F N k hb fb
  intro p hp
  rcases List.mem_cons.mp hp with rfl | hp
  · exact x _ (.head _)
  · rcases List.mem_cons.mp hp with rfl | hp
    · exact y _ (.head _)
    · exact z p hp

section
variable {w : World} {A : Around} {base : Heap} {outer : List Env} {p : Program} {loose : List Str} {mean : ExcName → Option Value} {mg mb : Str → Option Value} {d : Nat} {s : Shared}
  {R : Result → Shared → Prop} {name qual : Str} {params : Arguments} {body : List Stmt} {scope : Scope} {dV kV doc pm cdv ct oc : Value} {an od : Option Addr} {osl : Array (Option Value)} {f : Addr} {args : List Value} {binds : List (Str × Value)}
  {Q : Value → Shared → Prop} {E : Value → Shared → Prop}

/-- what a call made within a frame finds -/
theorem Cx.step {g h : Heap} {L : Addr} {m : Str → Option Value} {env : Env} (C : Cx w A base outer p loose mean mg mb (d + 1) g) (F : Fr g L h m) (hf : env.frame = some L) (hk : env.scope.kind = .function) :
    Cx w (A.deeper env) base (env :: outer) p loose mean mg mb d h where
  B := pushX C.B F hf hk
  hd := C.hd
  dep := by have := C.dep; show A.depth + 1 + d < _; omega
  un := by have := C.un; show A.units + 3 + 8 * d < _; omega
  X := C.X.keeps F.keep
  T := C.T.keeps F.keep

theorem Cx.mono {d d' : Nat} {h : Heap} (C : Cx w A base outer p loose mean mg mb d' h) (hd : d ≤ d') : Cx w A base outer p loose mean mg mb d h :=
  ⟨C.B, C.hd, by have := C.dep; omega, by have := C.un; omega, C.X, C.T⟩
/-- a def of the text is entered; all that stood stands on -/
theorem enter (C : Cx w A base outer p loose mean mg mb (d + 1) s.heap)
    (ho : (Mine.hd.heap_39 w.params).lookup f = some ⟨oc, od, .func (fnOf name qual params body scope dV kV doc pm an cdv ct), osl⟩) (hcd : codeIn (Mine.hd.heap_39 w.params) cdv qual = true)
    (hbind : BindsTo s (fnOf name qual params body scope dV kV doc pm an cdv ct) ⟨args, []⟩ binds) (hloc : ∀ y ∈ binds, scope.names.lookup y.1 = some .local)
    (h : ∀ (g : Heap) (L' : Addr) (h₁ : Heap), g = s.heap → Cx w A base outer p loose mean mg mb (d + 1) g → Fr g L' h₁ (fun y => binds.reverse.lookup y) → News g L' h₁ [] → 
      wpAny (model PG w) (A.deeper (envOf qual scope L' f cdv)) (execs body (envOf qual scope L' f cdv))
        (fun fl s' => Q (match fl with | .ret v => v | _ => .none) s')
        (fun _ _ => False)
        { s with heap := h₁, toks := s.toks + binds.length })
    (hco : scope.isCoroutine = false) (hgen : scope.isGenerator = false) (hk : scope.kind = .function)
    (hcell : ∀ x ∈ scope.names, x.2 ≠ .cell) : wpAny (model PG w) A (call (.ref f) args) Q E s := by
  refine wpAny_call (codeAny_call_def (fd := fnOf name qual params body scope dV kV doc pm an cdv ct) (body := body) (binds := binds) (Nat.lt_of_le_of_lt (Nat.le_add_right _ _) C.dep) (C.X _ _ ho) rfl C.T.nolimit (codeRec_of C.X hcd) rfl hbind hcell hloc (fun h₁ hns hk₁ => ?_) hco hgen hk)
  exact wpAny_mono (h s.heap _ h₁ rfl C ⟨hns, hk₁, Nat.le_refl _⟩ News.nil) (fun _ _ x => x) (fun _ _ x => x.elim)

theorem enterC (C : Cx w A base outer p loose mean mg mb (d + 1) s.heap)
    (ho : (Mine.hd.heap_39 w.params).lookup f = some ⟨oc, od, .func (fnOf name qual params body scope dV kV doc pm an cdv ct), osl⟩) (hcd : codeIn (Mine.hd.heap_39 w.params) cdv qual = true)
    (hbind : BindsTo s (fnOf name qual params body scope dV kV doc pm an cdv ct) ⟨args, []⟩ binds) (hkind : (binds.all fun y => scope.names.lookup y.1 == some .local || scope.names.lookup y.1 == some .cell) = true)
    (hnd : ((cellsFrom 0 scope.names []).map (·.1)).Nodup)
    (h : ∀ (g : Heap) (L' : Addr) (h₁ : Heap) (tk : Nat) cells, g = s.heap → Cx w A base outer p loose mean mg mb (d + 1) g → Fr g L' h₁ (bindL (envOfC qual scope L' f cdv).kindOf binds fun _ => none) → News g L' h₁ cells →
      CellsAre (bindC (envOfC qual scope L' f cdv).kindOf binds fun _ => none) (cellsFrom (L' + 1) scope.names []) cells →
      wpAny (model PG w) (A.deeper (envOfC qual scope L' f cdv)) (execs body (envOfC qual scope L' f cdv))
        (fun fl s' => Q (match fl with | .ret v => v | _ => .none) s')
        (fun _ _ => False)
        { s with heap := h₁, toks := tk })
    (hco : scope.isCoroutine = false) (hgen : scope.isGenerator = false) (hk : scope.kind = .function) : wpAny (model PG w) A (call (.ref f) args) Q E s := by
  refine wpAny_call ?_
  refine codeAny_call_function (fd := fnOf name qual params body scope dV kV doc pm an cdv ct) (Nat.lt_of_le_of_lt (Nat.le_add_right _ _) C.dep) (C.X _ _ ho) rfl hco hgen rfl (codeRec_of C.X hcd) (hbind _ _ _ _ ?_)
  refine wpAny_newFunctionEnv_cells hk (kindsX hkind _) fun env' he s' x => ?_
  subst he
  refine ⟨C.T.nolimit.keeps x.toInCall.keep, codeAny_func ?_⟩
  obtain ⟨h₁, tk, rfl, _⟩ := x.done
  have hk₁ := x.toInCall.keep
  obtain ⟨cells, NC, Y⟩ := Cl.news (h₀ := s.heap) (Nat.le_refl _) fun n c hm => ⟨x.cell n c (lookup_of_mem_nodup (cellsFrom_names scope.names 0 (s.heap.objs.size + 1) [] [] rfl ▸ hnd) hm), x.above n c hm⟩
  exact wpAny_mono (h s.heap s.heap.objs.size h₁ tk cells rfl C ⟨x.toInCall.ns, hk₁, Nat.le_refl _⟩ NC Y) (fun _ _ x => x) (fun _ _ x => x.elim)
end
end Mine

end
section
open PySem PySem.W PyProof.Rows PySem.Calls PySem.Spec
set_option Elab.async false
set_option maxRecDepth 100000
namespace Mine

/-- the names that a frame binds -/
noncomputable def Binds (m : Str → Option Value) (ps : List (Str × Value)) : Prop := ∀ p ∈ ps, m p.1 = some p.2
theorem Binds.nil {m : Str → Option Value} : Binds m [] := fun _ h => nomatch h
theorem Binds.cons {m : Str → Option Value} {n : Str} {v : Value} {ps : List (Str × Value)} (h : m n = some v) (r : Binds m ps) : Binds m ((n, v) :: ps) := fun p hp => by
  rcases List.mem_cons.mp hp with rfl | hp
  · exact h
  · exact r p hp
theorem Binds.same {m : Str → Option Value} {ps : List (Str × Value)} (b : Binds m ps) : kstB m ps = m := funext fun _ => kstB_eq b fun _ => rfl

/-- a word that the walk lets stand -/
noncomputable def Hold (P : Prop) : Prop := P
noncomputable def Stop (P : Prop) : Prop := P
theorem stop_of {P : Prop} (h : Stop P) : P := h

/-- the end of a while's turn -/
noncomputable def WEnd {σ : Type} (g : Heap) (L : Addr) (s : Shared) (led : σ → List (Addr × Obj)) (ps : σ → List (Str × Value)) (I : σ → Prop) (μ : σ → Nat) (c : σ) (s₂ : Shared) : Prop :=
  ∃ (c' : σ) (h' : Heap) (tk : Nat) (m' : Str → Option Value) (news' : List (Addr × Obj)), s₂ = { s with heap := h', toks := tk } ∧ Fr g L h' m' ∧ News g L h' news' ∧ (∀ p ∈ led c', p ∈ news') ∧ Binds m' (ps c') ∧ I c' ∧ μ c' < μ c
noncomputable def WPost {σ : Type} (g : Heap) (L : Addr) (s : Shared) (led : σ → List (Addr × Obj)) (ps : σ → List (Str × Value)) (I : σ → Prop) (μ : σ → Nat) (Q : Flow → Shared → Prop) (c : σ) (f : Flow) (s₂ : Shared) : Prop :=
  match f with
  | .ret v => Q (.ret v) s₂
  | .brk => Q .next s₂
  | _ => WEnd g L s led ps I μ c s₂
theorem WEnd.intro {σ : Type} {g : Heap} {L : Addr} {s : Shared} {led : σ → List (Addr × Obj)} {ps : σ → List (Str × Value)} {I : σ → Prop} {μ : σ → Nat} {c : σ} {h' : Heap} {tk : Nat} {m' : Str → Option Value} {news' : List (Addr × Obj)} (c' : σ)
    (F : Fr g L h' m') (N : News g L h' news') (hn : ∀ p ∈ led c', p ∈ news') (hb : Binds m' (ps c')) (hI : I c') (hm : μ c' < μ c) : WEnd g L s led ps I μ c { s with heap := h', toks := tk } :=
  ⟨c', h', tk, m', news', rfl, F, N, hn, hb, hI, hm⟩

/-- the end of a for's turn -/
noncomputable def FEnd {σ : Type} (g : Heap) (L : Addr) (s : Shared) (led : σ → List (Addr × Obj)) (ps : σ → List (Str × Value)) (I : σ → Prop) (own : List (Addr × Obj)) (adr : List Addr) (s₂ : Shared) : Prop :=
  ∃ (c : σ) (h' : Heap) (tk : Nat) (m' : Str → Option Value) (news' : List (Addr × Obj)), s₂ = { s with heap := h', toks := tk } ∧ Fr g L h' m' ∧ News g L h' news' ∧ (∀ p ∈ led c, p ∈ news') ∧ (∀ p ∈ own, p ∈ news') ∧ (led c).map (·.1) = adr ∧ Binds m' (ps c) ∧ I c
noncomputable def FPost {σ : Type} (g : Heap) (L : Addr) (s : Shared) (led : σ → List (Addr × Obj)) (ps : σ → List (Str × Value)) (I : σ → Prop) (own : List (Addr × Obj)) (adr : List Addr) (Q : Flow → Shared → Prop) (f : Flow) (s₂ : Shared) : Prop :=
  match f with
  | .ret v => Q (.ret v) s₂
  | .brk => Q .next s₂
  | _ => FEnd g L s led ps I own adr s₂
theorem FEnd.intro {σ : Type} {g : Heap} {L : Addr} {s : Shared} {led : σ → List (Addr × Obj)} {ps : σ → List (Str × Value)} {I : σ → Prop} {own : List (Addr × Obj)} {adr : List Addr} {h' : Heap} {tk : Nat} {m' : Str → Option Value} {news' : List (Addr × Obj)} (c : σ)
    (F : Fr g L h' m') (N : News g L h' news') (hn : ∀ p ∈ led c, p ∈ news') (ho : ∀ p ∈ own, p ∈ news') (ha : (led c).map (·.1) = adr) (hb : Binds m' (ps c)) (hI : I c) : FEnd g L s led ps I own adr { s with heap := h', toks := tk } :=
  ⟨c, h', tk, m', news', rfl, F, N, hn, ho, ha, hb, hI⟩

section
variable {prog : Program} {w : World} {A : Around} {E : Value → Shared → Prop} {Q : Flow → Shared → Prop} {s : Shared} {env : Env} {g : Heap} {L : Addr} {σ : Type} {x : Str} {body : List Stmt}

theorem snoc_range {vs : List Value} {f : Nat → Int} {i : Nat} {x : Int} {t : Tok} (hI : IntsAre vs ((List.range i).map f)) (e : x = f i) : IntsAre (vs ++ [.int x t]) ((List.range (i + 1)).map f) := by
  rw [List.range_succ, List.map_append, List.map_singleton, ← e]
  exact ksk_snoc hI
theorem m_append {D : Addr} {h₀ : Heap} {m : Str → Option Value} {news news' : List (Addr × Obj)} {vs : List Value} {n : Nat} {v : Value} {Q : Value → Shared → Prop} (F : Fr h₀ L s.heap m) (N : News h₀ L s.heap news) (U : Upd D (listOf vs.toArray n) (listOf (vs ++ [v]).toArray (n + 1)) news news') (hz : vs.length ≤ 2000)
    (h : ∀ h', Fr h₀ L h' m → News h₀ L h' news' → Q .none { s with heap := h' }) : wpAny (model prog w) A (call (.builtin "list.append") [.ref D, v]) Q E s := by
  refine append_K (its := vs.toArray) (n := n) F N ?_ h (by rw [List.size_toArray, sizeLine_eq]; omega)
  rw [List.push_toArray]
  exact U

theorem m_while {test : Expr} {body : List Stmt} {pos : Pos} {m₀ : Str → Option Value} (led : σ → List (Addr × Obj)) (ps : σ → List (Str × Value)) (I : σ → Prop) (μ : σ → Nat) (c₀ : σ)
    (F : Fr g L s.heap m₀) (N : News g L s.heap (led c₀)) (hb : Binds m₀ (ps c₀)) (hI : Hold (I c₀))
    (turn : ∀ (c : σ) (u : Str → Option Value) h tk, I c → Fr g L h (kstB u (ps c)) → News g L h (led c) →
      wpAny (model prog w) A (isTrue test env (eval test env)) (fun b s₂ =>
        if b = true then wpAny (model prog w) A (execs body env) (WPost g L s led ps I μ Q c) E s₂ else Q .next s₂) E { s with heap := h, toks := tk })
    (hE : PassesOwn (model prog w) A env E := by passes_own) :
    wpAny (model prog w) A (exec (.While test body [] pos) env) Q E s := by
  refine While_inv2 (fun n m nx => ∃ c : σ, nx = led c ∧ μ c = n ∧ Binds m (ps c) ∧ I c) F N ⟨c₀, rfl, rfl, hb, hI⟩ ?_ hE
  rintro n m₁ nx h tk F₁ N₁ ⟨c, hnx, hsz, hb', hI'⟩
  rw [hnx] at N₁
  rw [← hsz]
  rw [← hb'.same] at F₁
  refine wpAny_mono (turn c m₁ h tk hI' F₁ N₁) (fun b s₂ p => ?_) fun _ _ x => x
  cases b with
  | false => simpa using p
  | true =>
    simp only [if_true] at p ⊢
    refine wpAny_mono p (fun f s₃ q => ?_) fun _ _ x => x
    cases f with
    | ret v => exact q
    | brk => exact q
    | next =>
      obtain ⟨c', h', tk', m', news', rfl, F', N', hn, hb9, hI9, hm9⟩ := q
      exact ⟨h', tk', m', led c', μ c', rfl, F', fun p hp => N' p (hn p hp), hm9, c', rfl, rfl, hb9, hI9⟩
    | cont =>
      obtain ⟨c', h', tk', m', news', rfl, F', N', hn, hb9, hI9, hm9⟩ := q
      exact ⟨h', tk', m', led c', μ c', rfl, F', fun p hp => N' p (hn p hp), hm9, c', rfl, rfl, hb9, hI9⟩

theorem fpost {led : σ → List (Addr × Obj)} {ps : σ → List (Str × Value)} {I : σ → Prop} {own : List (Addr × Obj)} {adr : List Addr} {s₁ s₂ : Shared} {f : Flow}
    (p : FPost g L s₁ led ps I own adr Q f s₂) : InvPostN g L (fun m nx => ∃ c, nx = led c ∧ Binds m (ps c) ∧ I c) own adr s₁ Q f s₂ := by
  cases f with
  | ret v => exact p
  | brk => exact p
  | next =>
    obtain ⟨c, h', tk, m', news', rfl, F, N, hn, ho, ha, hb, hI⟩ := p
    exact InvEndN.intro F N ⟨c, rfl, hb, hI⟩ ha hn ho
  | cont =>
    obtain ⟨c, h', tk, m', news', rfl, F, N, hn, ho, ha, hb, hI⟩ := p
    exact InvEndN.intro F N ⟨c, rfl, hb, hI⟩ ha hn ho

theorem fr_same {h : Heap} {m₁ : Str → Option Value} {ps : List (Str × Value)} {v : Value} (hb : Binds m₁ ps) (F : Fr g L h (fun y => if y = x then some v else m₁ y)) : Fr g L h (fun y => if y = x then some v else kstB m₁ ps y) := by
  rw [hb.same]; exact F

/-- a for over a range -/
theorem m_range {r : Addr} {a₀ b₀ st : Int} {t₀ u₀ v₀ : Tok} {m₀ : Str → Option Value} (n : Nat) (led : σ → List (Addr × Obj)) (ps : σ → List (Str × Value)) (I : Nat → σ → Prop) (c₀ : σ)
    (hh : A.handled = none) (hr : IsRange s.heap r a₀ b₀ st t₀ u₀ v₀) (hsmall : Builtin.Range.small a₀ b₀ st = true) (hn : Builtin.Range.rangeSize a₀ b₀ st = (n : Int)) (F : Fr g env.locals s.heap m₀) (N : News g env.locals s.heap (led c₀)) (hb : Binds m₀ (ps c₀)) (hI : Hold (I 0 c₀))
    (turn : ∀ (c : σ) (i : Nat) t (u : Str → Option Value) h tk own, i < n → OwnOff own ((led c₀).map (·.1)) → I i c →
      Fr g env.locals h (fun y => if y = x then some (.int (a₀ + (i : Int) * st) t) else kstB u (ps c) y) → News g env.locals h (led c ++ own) →
      wpAny (model prog w) A (execs body env) (FPost g env.locals { s with heap := h, toks := tk } led ps (I (i + 1)) own ((led c₀).map (·.1)) Q) E { s with heap := h, toks := tk })
    (done : ∀ (c : σ) (u : Str → Option Value) h tk, I n c → Fr g env.locals h (kstB u (ps c)) → News g env.locals h (led c) → Q .next { s with heap := h, toks := tk }) :
    wpAny (model prog w) A (pyIter (.ref r)) (fun it s₂ => LoopAtV prog w A g env x body Q E it s₂) E s := by
  refine wpAny_pyIter_range hr hsmall ?_
  have W : Walks prog w A s.heap.objs.size [s.heap.objs.size] [s.heap.objs.size] n (fun i v => i < n ∧ ∃ t, v = .int (a₀ + i * st) t)
      (fun i h => IsRangeIter h s.heap.objs.size (a₀ + (i : Nat) * st) ((n : Int) - (i : Nat)) st) := (Walks.range hh _ a₀ st n).bound
  refine loop_invN (fun i m nx => ∃ c, nx = led c ∧ Binds m (ps c) ∧ I i c) W ?_ ?_ ?_ ?_ (by show IsRangeIter _ _ _ _ _; rw [hn]; simpa using Heap.get?_push_size _ rfl) (F.push _) (fun p hp => ⟨Heap.get?_push_of_some _ (N p hp).1, (N p hp).2⟩) ⟨c₀, rfl, hb, hI⟩ ?_ ?_
  · intro hm
    exact absurd F.ns.lt ((List.mem_singleton.mp hm) ▸ Nat.lt_irrefl _)
  · intro b hb
    rw [List.mem_singleton.mp hb]
    exact next_is_new F
  · intro p hp hI
    exact absurd (Heap.lt_size (N p hp).1) ((List.mem_singleton.mp hI) ▸ Nat.lt_irrefl _)
  · intro p hp hI
    exact absurd (Heap.lt_size (N p hp).1) ((List.mem_singleton.mp hI) ▸ Nat.lt_irrefl _)
  · rintro i v m₁ nx h tk own hi ⟨_, t, rfl⟩ _ hoff ⟨c, rfl, hb', hI'⟩ F₁ N₁
    exact wpAny_mono (turn c i t m₁ h tk own hi hoff hI' (fr_same hb' F₁) N₁) (fun f s₂ p => fpost p) fun _ _ e => e
  · rintro m₁ nx h tk ⟨c, rfl, hb', hI'⟩ F₁ N₁
    exact done c m₁ h tk hI' (by rw [hb'.same]; exact F₁) N₁

/-- a for over a list of the base: any items -/
theorem m_listB {l : Addr} {its : Array Value} {m₀ : Str → Option Value} (led : σ → List (Addr × Obj)) (ps : σ → List (Str × Value)) (I : Nat → σ → Prop) (c₀ : σ)
    (hh : A.handled = none) (hl : g.IsList l its) (F : Fr g env.locals s.heap m₀) (N : News g env.locals s.heap (led c₀)) (hb : Binds m₀ (ps c₀)) (hI : Hold (I 0 c₀))
    (turn : ∀ (c : σ) (i : Nat) v (u : Str → Option Value) h tk own, i < its.size → its[i]? = some v → OwnOff own ((led c₀).map (·.1)) → I i c →
      Fr g env.locals h (fun y => if y = x then some v else kstB u (ps c) y) → News g env.locals h (led c ++ own) →
      wpAny (model prog w) A (execs body env) (FPost g env.locals { s with heap := h, toks := tk } led ps (I (i + 1)) own ((led c₀).map (·.1)) Q) E { s with heap := h, toks := tk })
    (done : ∀ (c : σ) (u : Str → Option Value) h tk, I its.size c → Fr g env.locals h (kstB u (ps c)) → News g env.locals h (led c) → Q .next { s with heap := h, toks := tk }) :
    wpAny (model prog w) A (pyIter (.ref l)) (fun it s₂ => LoopAtV prog w A g env x body Q E it s₂) E s := by
  have hls : s.heap.IsList l its := hl.at fun o e => F.keep l o e
  obtain ⟨ol, hol, _⟩ := id hl
  have hlt : l < g.objs.size := Heap.lt_size hol
  have hne : l ≠ s.heap.objs.size := Nat.ne_of_lt (Nat.lt_trans (Nat.lt_of_lt_of_le hlt F.above) F.ns.lt)
  refine wpAny_pyIter_list hls ?_
  have W := Walks.list (prog := prog) (w := w) hh s.heap.objs.size l hne its
  refine loop_invN (fun i m nx => ∃ c, nx = led c ∧ Binds m (ps c) ∧ I i c) W ?_ ?_ ?_ ?_ ⟨⟨_, Heap.get?_push_size _ rfl, rfl, rfl⟩, hls.at fun o e => Heap.get?_push_of_some _ e⟩ (F.push _) (fun p hp => ⟨Heap.get?_push_of_some _ (N p hp).1, (N p hp).2⟩) ⟨c₀, rfl, hb, hI⟩ ?_ ?_
  · intro hm
    rcases List.mem_cons.mp hm with e | hm
    · exact absurd F.ns.lt (e ▸ Nat.lt_irrefl _)
    · exact absurd (Nat.lt_of_lt_of_le hlt F.above) ((List.mem_singleton.mp hm) ▸ Nat.lt_irrefl _)
  · intro b hb
    rw [List.mem_singleton.mp hb]
    exact next_is_new F
  · intro p hp hI
    exact absurd (Heap.lt_size (N p hp).1) ((List.mem_singleton.mp hI) ▸ Nat.lt_irrefl _)
  · intro p hp hI
    rcases List.mem_cons.mp hI with e | hm
    · exact absurd (Heap.lt_size (N p hp).1) (e ▸ Nat.lt_irrefl _)
    · have h3 := (N p hp).2.2
      rw [List.mem_singleton.mp hm, hol] at h3
      cases h3
  · rintro i v m₁ nx h tk own hi hv _ hoff ⟨c, rfl, hb', hI'⟩ F₁ N₁
    exact wpAny_mono (turn c i v m₁ h tk own hi hv hoff hI' (fr_same hb' F₁) N₁) (fun f s₂ p => fpost p) fun _ _ e => e
  · rintro m₁ nx h tk ⟨c, rfl, hb', hI'⟩ F₁ N₁
    exact done c m₁ h tk hI' (by rw [hb'.same]; exact F₁) N₁

/-- the end of a turn that has changed one list of ints -/
noncomputable def FEnd1 (g : Heap) (L : Addr) (s : Shared) (D : Addr) (rest own : List (Addr × Obj)) (ps : List (Str × Value)) (I : List Int → Prop) (s₂ : Shared) : Prop :=
  ∃ (vs : List Value) (c : Nat) (fs : List Int) (h' : Heap) (tk : Nat) (m' : Str → Option Value) (news' : List (Addr × Obj)), s₂ = { s with heap := h', toks := tk } ∧ Fr g L h' m' ∧ News g L h' news' ∧ (D, listOf vs.toArray c) ∈ news' ∧ (∀ p ∈ rest, p ∈ news') ∧ (∀ p ∈ own, p ∈ news') ∧ Binds m' ps ∧ IntsAre vs fs ∧ I fs
noncomputable def FPost1 (g : Heap) (L : Addr) (s : Shared) (D : Addr) (rest own : List (Addr × Obj)) (ps : List (Str × Value)) (I : List Int → Prop) (Q : Flow → Shared → Prop) (f : Flow) (s₂ : Shared) : Prop :=
  match f with
  | .ret v => Q (.ret v) s₂
  | .brk => Q .next s₂
  | _ => FEnd1 g L s D rest own ps I s₂
theorem FEnd1.intro {s : Shared} {D : Addr} {rest own : List (Addr × Obj)} {ps : List (Str × Value)} {I : List Int → Prop} {vs : List Value} {c : Nat} {fs : List Int} {h' : Heap} {tk : Nat} {m' : Str → Option Value} {news' : List (Addr × Obj)}
    (F : Fr g L h' m') (N : News g L h' news') (hD : (D, listOf vs.toArray c) ∈ news') (hr : ∀ p ∈ rest, p ∈ news') (ho : ∀ p ∈ own, p ∈ news') (hb : Binds m' ps) (hi : IntsAre vs fs) (hI : I fs) : FEnd1 g L s D rest own ps I { s with heap := h', toks := tk } :=
  ⟨vs, c, fs, h', tk, m', news', rfl, F, N, hD, hr, ho, hb, hi, hI⟩
theorem fpost1 {s₁ s₂ : Shared} {D : Addr} {rest own : List (Addr × Obj)} {ps : List (Str × Value)} {I : List Int → Prop} {f : Flow} {adr : List Addr} (ha : D :: rest.map (·.1) = adr) (p : FPost1 g L s₁ D rest own ps I Q f s₂) :
    FPost (σ := List Value × Nat × List Int) g L s₁ (fun c => (D, listOf c.1.toArray c.2.1) :: rest) (fun _ => ps) (fun c => IntsAre c.1 c.2.2 ∧ I c.2.2) own adr Q f s₂ := by
  have up : FEnd1 g L s₁ D rest own ps I s₂ → FEnd (σ := List Value × Nat × List Int) g L s₁ (fun c => (D, listOf c.1.toArray c.2.1) :: rest) (fun _ => ps) (fun c => IntsAre c.1 c.2.2 ∧ I c.2.2) own adr s₂ := by
    rintro ⟨vs, c, fs, h', tk, m', news', rfl, F, N, hD, hr, ho, hb, hi, hI⟩
    refine ⟨(vs, c, fs), h', tk, m', news', rfl, F, N, fun p hp => ?_, ho, ha, hb, hi, hI⟩
    rcases List.mem_cons.mp hp with rfl | hp
    · exact hD
    · exact hr p hp
  cases f with
  | ret v => exact p
  | brk => exact p
  | next => exact up p
  | cont => exact up p

theorem m_enum1 {xi xc : Str} {ns ns₀ : List Int} {xv : Value} {m₀ : Str → Option Value} {D : Addr} {rest : List (Addr × Obj)} {vs₀ : List Value} {n₀ : Nat} (ps : List (Str × Value)) (I : Nat → List Int → Prop)
    (S : PairSrcL prog w A E g L ItemKind.int ns xv s m₀ ((D, listOf vs₀.toArray n₀) :: rest)) (hL : env.locals = L) (hb : Binds m₀ ps) (hi : IntsAre vs₀ ns₀) (hI : I 0 ns₀)
    (turn : ∀ (i : Nat) (n : Int) (vs : List Value) (c : Nat) (fs : List Int) t t' (u : Str → Option Value) h tk own, ns[i]? = some n → OwnOff own (D :: rest.map (·.1)) → IntsAre vs fs → I i fs →
      Fr g env.locals h (fun y => if y = xc then some (.int n t') else if y = xi then some (.int i t) else kstB u ps y) → News g env.locals h ((D, listOf vs.toArray c) :: (rest ++ own)) →
      wpAny (model prog w) A (execs body env) (FPost1 g env.locals { s with heap := h, toks := tk } D rest own ps (I (i + 1)) Q) E { s with heap := h, toks := tk })
    (done : ∀ (vs : List Value) (c : Nat) (fs : List Int) (u : Str → Option Value) h tk, IntsAre vs fs → I ns.length fs → Fr g env.locals h (kstB u ps) → News g env.locals h ((D, listOf vs.toArray c) :: rest) → Q .next { s with heap := h, toks := tk }) :
    wpAny (model prog w) A (pyIter xv) (fun it s₂ => PairAt3 prog w A g env xi xc body Q E it s₂) E s := by
  refine S env hL xi xc body Q (fun i m nx => ∃ c : List Value × Nat × List Int, nx = (D, listOf c.1.toArray c.2.1) :: rest ∧ Binds m ps ∧ IntsAre c.1 c.2.2 ∧ I i c.2.2) ⟨(vs₀, n₀, ns₀), rfl, hb, hi, hI⟩ ?_ ?_
  · rintro i n t v m₁ nx s₁ own ⟨h, tk, rfl⟩ hn ⟨t', rfl⟩ ⟨⟨vs, c, fs⟩, rfl, hb', hi', hI'⟩ hadr hoff F₁ N₁
    dsimp only at hi' hI' hadr N₁
    have F₂ : Fr g env.locals h (fun y => if y = xc then some (.int n t') else if y = xi then some (.int i t) else kstB m₁ ps y) := by
      rw [hb'.same]; exact F₁
    have N₂ : News g env.locals h ((D, listOf vs.toArray c) :: (rest ++ own)) := fun p hp => N₁ p (by
      rcases List.mem_cons.mp hp with rfl | hp
      · exact List.mem_append.mpr (.inr (.head _))
      · rcases List.mem_append.mp hp with hp | hp
        · exact List.mem_append.mpr (.inr (.tail _ hp))
        · exact List.mem_append.mpr (.inl hp))
    have ho : OwnOff own (D :: rest.map (·.1)) := by
      intro p hp b hb e
      obtain ⟨q, hq, rfl⟩ := List.mem_map.mp (show b ∈ ((D, listOf vs₀.toArray n₀) :: rest).map (·.1) from hb)
      exact hoff p hp q hq e
    refine wpAny_mono (turn i n vs c fs t t' m₁ h tk own hn ho hi' hI' F₂ N₂) (fun f s₂ p => ?_) fun _ _ e => e
    have fin : FEnd1 g env.locals { s with heap := h, toks := tk } D rest own ps (I (i + 1)) s₂ → LoopStep2 g env.locals own ((D, listOf vs.toArray c) :: rest) (fun m nx => ∃ c : List Value × Nat × List Int, nx = (D, listOf c.1.toArray c.2.1) :: rest ∧ Binds m ps ∧ IntsAre c.1 c.2.2 ∧ I (i + 1) c.2.2) { s with heap := h, toks := tk } .next s₂ := by
      rintro ⟨vs', c', fs', h', tk', m', news', e, F', N', hD', hn', ho', hb9, hi9, hI9⟩
      refine ⟨rfl, h', tk', m', (D, listOf vs'.toArray c') :: rest, e, F', fun p hp => N' p ?_, rfl, (vs', c', fs'), rfl, hb9, hi9, hI9⟩
      rcases List.mem_append.mp hp with hp | hp
      · exact ho' p hp
      · rcases List.mem_cons.mp hp with rfl | hp
        · exact hD'
        · exact hn' p hp
    cases f with
    | ret v => exact p
    | brk => exact p
    | next => exact fin p
    | cont => exact fin p
  · rintro h' tk m' news' F' N' _ ⟨⟨vs, c, fs⟩, rfl, hb', hi', hI'⟩
    exact done vs c fs m' h' tk hi' hI' (by rw [hb'.same]; exact F') N'

theorem m_range1 {r : Addr} {a₀ b₀ st : Int} {t₀ u₀ v₀ : Tok} {m₀ : Str → Option Value} {ns₀ : List Int} {D : Addr} {rest : List (Addr × Obj)} {vs₀ : List Value} {n₀ : Nat} (n : Nat) (ps : List (Str × Value)) (I : Nat → List Int → Prop)
    (hh : A.handled = none) (hr : IsRange s.heap r a₀ b₀ st t₀ u₀ v₀) (hsmall : Builtin.Range.small a₀ b₀ st = true) (hn : Builtin.Range.rangeSize a₀ b₀ st = (n : Int)) (F : Fr g env.locals s.heap m₀) (N : News g env.locals s.heap ((D, listOf vs₀.toArray n₀) :: rest)) (hb : Binds m₀ ps) (hi : IntsAre vs₀ ns₀) (hI : I 0 ns₀)
    (turn : ∀ (i : Nat) (vs : List Value) (c : Nat) (fs : List Int) t (u : Str → Option Value) h tk own, i < n → OwnOff own (D :: rest.map (·.1)) → IntsAre vs fs → I i fs →
      Fr g env.locals h (fun y => if y = x then some (.int (a₀ + (i : Int) * st) t) else kstB u ps y) → News g env.locals h ((D, listOf vs.toArray c) :: (rest ++ own)) →
      wpAny (model prog w) A (execs body env) (FPost1 g env.locals { s with heap := h, toks := tk } D rest own ps (I (i + 1)) Q) E { s with heap := h, toks := tk })
    (done : ∀ (vs : List Value) (c : Nat) (fs : List Int) (u : Str → Option Value) h tk, IntsAre vs fs → I n fs → Fr g env.locals h (kstB u ps) → News g env.locals h ((D, listOf vs.toArray c) :: rest) → Q .next { s with heap := h, toks := tk }) :
    wpAny (model prog w) A (pyIter (.ref r)) (fun it s₂ => LoopAtV prog w A g env x body Q E it s₂) E s := by
  refine m_range (σ := List Value × Nat × List Int) n (fun c => (D, listOf c.1.toArray c.2.1) :: rest) (fun _ => ps) (fun i c => IntsAre c.1 c.2.2 ∧ I i c.2.2) (vs₀, n₀, ns₀) hh hr hsmall hn F N hb ⟨hi, hI⟩ ?_ ?_
  · rintro ⟨vs, c, fs⟩ i t u h tk own hi' ho ⟨hv, hI'⟩ F₁ N₁
    exact wpAny_mono (turn i vs c fs t u h tk own hi' ho hv hI' F₁ N₁) (fun f s₂ p => fpost1 rfl p) fun _ _ e => e
  · rintro ⟨vs, c, fs⟩ u h tk ⟨hv, hI'⟩ F₁ N₁
    exact done vs c fs u h tk hv hI' F₁ N₁

theorem off_app {a b : List (Addr × Obj)} {d : Addr} (ha : ∀ p ∈ a, p.1 ≠ d) (hb : ∀ p ∈ b, p.1 ≠ d) : ∀ p ∈ a ++ b, p.1 ≠ d := fun p hp => (List.mem_append.mp hp).elim (ha p) (hb p)
theorem sub_app {a b c : List (Addr × Obj)} (ha : ∀ p ∈ a, p ∈ c) (hb : ∀ p ∈ b, p ∈ c) : ∀ p ∈ a ++ b, p ∈ c := fun p hp => (List.mem_append.mp hp).elim (ha p) (hb p)
theorem add_LI {m : Str → Option Value} {news : List (Addr × Obj)} {a b : Addr} {ns ms : List Int} {Q : Value → Shared → Prop} (F : Fr g L s.heap m) (N : News g L s.heap news) (x : LI s.heap a ns) (y : LI s.heap b ms) (hz : ns.length + ms.length ≤ 5000)
    (h : ∀ D us h', Fr g L h' m → News g L h' ((D, listOf (List.toArray us) 0) :: news) → (∀ p ∈ news, p.1 < D) → IntsAre us (ns ++ ms) → Q (.ref D) { s with heap := h' }) : wpAny (model prog w) A (binaryOp .Add (.ref a) (.ref b)) Q E s := by
  obtain ⟨vs, hl, hi⟩ := x.list
  obtain ⟨us, hm, hj⟩ := y.list
  exact kmk_add_ints F N hl hm hi hj h (by rw [sizeLine_eq]; omega)
noncomputable def Lists (led : List (Addr × Obj)) : Prop := ∀ p ∈ led, ∃ its n, p.2 = listOf its n
theorem Lists.nil : Lists [] := fun _ h => nomatch h
theorem Lists.cons {l : Addr} {its : Array Value} {n : Nat} {led : List (Addr × Obj)} (h : Lists led) : Lists ((l, listOf its n) :: led) := fun p hp => by
  rcases List.mem_cons.mp hp with rfl | hp
  · exact ⟨_, _, rfl⟩
  · exact h p hp
theorem off_cell {h : Heap} {news led : List (Addr × Obj)} {c : Addr} {o : Obj} {v : Option Value} (N : News g L h news) (hl : ∀ p ∈ led, p ∈ news) (hs : Lists led) (hc : (c, o) ∈ news) (hd : o.data = .cell v) : ∀ p ∈ led, p.1 ≠ c := fun p hp e => by
  obtain ⟨its, n, hi⟩ := hs p hp
  have h1 := (N _ (hl p hp)).1
  have h2 := (N _ hc).1
  rw [e] at h1
  rw [h2] at h1
  have h3 : o = listOf its n := (Option.some.inj h1).trans hi
  rw [h3] at hd
  have h4 : Data.seq its n = Data.cell v := hd
  cases h4
theorem off_two {led : List (Addr × Obj)} {a b : Addr} (ha : ∀ p ∈ led, p.1 ≠ a) (hb : ∀ p ∈ led, p.1 ≠ b) : OwnOff led [a, b] := fun p hp x hx => by
  rcases List.mem_cons.mp hx with rfl | hx
  · exact ha p hp
  · rw [List.mem_singleton.mp hx]; exact hb p hp
theorem flat_zero : ∀ k : Nat, (List.replicate k [(0 : Int)]).flatten = List.replicate k 0
  | 0 => rfl
  | k + 1 => by rw [List.replicate_succ, List.replicate_succ, List.flatten_cons, flat_zero k]; rfl
/-- [0] * k, the list of the one zero forgotten -/
theorem m_zeros {l : Addr} {rest : List (Addr × Obj)} {x : Int} {u t : Tok} {c : Nat} {m : Str → Option Value} {Q : Value → Shared → Prop} (F : Fr g L s.heap m) (N : News g L s.heap ((l, listOf #[.int 0 t] c) :: rest)) (hlo : -1000 ≤ x) (hhi : x ≤ 1000)
    (h : ∀ D ws h', Fr g L h' m → News g L h' ((D, listOf (List.toArray ws) 0) :: rest) → (∀ p ∈ rest, p.1 < D) → IntsAre ws (List.replicate x.toNat 0) → Q (.ref D) { s with heap := h' }) : wpAny (model prog w) A (binaryOp .Mult (.ref l) (.int x u)) Q E s := by
  refine KM.mul (vs := [.int 0 t]) (ns := [0]) F N (News.isList N (.head _)) (.cons _ _ .nil) (by omega) (by omega) (by simp; omega) ?_
  intro D h' F' N' l1 hi _ _ _ _ _
  rw [flat_zero] at hi
  exact h D _ h' F' (fun p hp => N' p (by rcases List.mem_cons.mp hp with rfl | hp; exact .head _; exact .tail _ (.tail _ hp))) (fun p hp => l1 p (.tail _ hp)) hi

abbrev tup3 (x y z : Int) (i j k : Tok) : Obj := { cls := .type "tuple", data := .seq #[.int x i, .int y j, .int z k] }
set_option genInjectivity false in
set_option genSizeOf false in
structure XS where
  A : Addr
  B : Addr
  x : Int
  y : Int
  z : Int
  u : Int
  v : Int
  w : Int
  i : Tok
  j : Tok
  k : Tok
  l : Tok
  m : Tok
  n : Tok

/-- the end of a for's turn that may bind its names anew -/
noncomputable def GEnd (g : Heap) (L : Addr) (s : Shared) (led : σ → List (Addr × Obj)) (ps : σ → List (Str × Value)) (I : σ → Prop) (own : List (Addr × Obj)) (cls : Value) (s₂ : Shared) : Prop :=
  ∃ (c : σ) (h' : Heap) (tk : Nat) (m' : Str → Option Value) (news' : List (Addr × Obj)), s₂ = { s with heap := h', toks := tk } ∧ Fr g L h' m' ∧ News g L h' news' ∧ (∀ p ∈ led c, p ∈ news') ∧ (∀ p ∈ own, p ∈ news') ∧ (∀ p ∈ led c, p.2.cls ≠ cls) ∧ Binds m' (ps c) ∧ I c
noncomputable def GPost (g : Heap) (L : Addr) (s : Shared) (led : σ → List (Addr × Obj)) (ps : σ → List (Str × Value)) (I : σ → Prop) (own : List (Addr × Obj)) (cls : Value) (Q : Flow → Shared → Prop) (f : Flow) (s₂ : Shared) : Prop :=
  match f with
  | .ret v => Q (.ret v) s₂
  | .brk => Q .next s₂
  | _ => GEnd g L s led ps I own cls s₂
theorem GEnd.intro {s : Shared} {led : σ → List (Addr × Obj)} {ps : σ → List (Str × Value)} {I : σ → Prop} {own : List (Addr × Obj)} {cls : Value} {h' : Heap} {tk : Nat} {m' : Str → Option Value} {news' : List (Addr × Obj)} (c : σ)
    (F : Fr g L h' m') (N : News g L h' news') (hn : ∀ p ∈ led c, p ∈ news') (ho : ∀ p ∈ own, p ∈ news') (hc : ∀ p ∈ led c, p.2.cls ≠ cls) (hb : Binds m' (ps c)) (hI : I c) : GEnd g L s led ps I own cls { s with heap := h', toks := tk } :=
  ⟨c, h', tk, m', news', rfl, F, N, hn, ho, hc, hb, hI⟩
theorem gpost {wr : List Addr} {led : σ → List (Addr × Obj)} {ps : σ → List (Str × Value)} {I : σ → Prop} {own : List (Addr × Obj)} {cls : Value} {s₁ s₂ : Shared} {f : Flow} (hw : ∀ b ∈ wr, ∃ o, (b, o) ∈ own ∧ o.cls = cls)
    (p : GPost g L s₁ led ps I own cls Q f s₂) : LoopStepV g L wr own (fun m nx => ∃ c, nx = led c ∧ (∀ p ∈ led c, p.2.cls ≠ cls) ∧ Binds m (ps c) ∧ I c) s₁ (fun v s' => Q (.ret v) s') (fun s' => Q .next s') f s₂ := by
  have up : GEnd g L s₁ led ps I own cls s₂ → LoopStepU g L wr own (fun m nx => ∃ c, nx = led c ∧ (∀ p ∈ led c, p.2.cls ≠ cls) ∧ Binds m (ps c) ∧ I c) s₁ .next s₂ := by
    rintro ⟨c, h', tk, m', news', rfl, F, N, hn, ho, hc, hb, hI⟩
    refine ⟨rfl, h', tk, m', led c, rfl, F, fun p hp => N p ((List.mem_append.mp hp).elim (ho p) (hn p)), fun p hp hq => ?_, c, rfl, hc, hb, hI⟩
    obtain ⟨o, hm, hcl⟩ := hw _ hq
    have h1 := (N _ (ho _ hm)).1
    have h2 := (N _ (hn _ hp)).1
    rw [h1] at h2
    exact hc p hp ((Option.some.inj h2) ▸ hcl)
  cases f with
  | ret v => exact .ret p
  | brk => exact .brk p
  | next => exact .next (up p)
  | cont => exact .cont (up p)
theorem m_rangeG {r : Addr} {a₀ b₀ st : Int} {t₀ u₀ v₀ : Tok} {m₀ : Str → Option Value} (n : Nat) (led : σ → List (Addr × Obj)) (ps : σ → List (Str × Value)) (I : Nat → σ → Prop) (c₀ : σ)
    (hh : A.handled = none) (hr : IsRange s.heap r a₀ b₀ st t₀ u₀ v₀) (hsmall : Builtin.Range.small a₀ b₀ st = true) (hn : Builtin.Range.rangeSize a₀ b₀ st = (n : Int)) (F : Fr g env.locals s.heap m₀) (N : News g env.locals s.heap (led c₀)) (hc : ∀ p ∈ led c₀, p.2.cls ≠ .type "range_iterator") (hb : Binds m₀ (ps c₀)) (hI : Hold (I 0 c₀))
    (turn : ∀ (c : σ) (i : Nat) t (u : Str → Option Value) h tk own, i < n → I i c → (∀ p ∈ led c, p.2.cls ≠ .type "range_iterator") →
      Fr g env.locals h (fun y => if y = x then some (.int (a₀ + (i : Int) * st) t) else kstB u (ps c) y) → News g env.locals h (led c ++ own) →
      wpAny (model prog w) A (execs body env) (GPost g env.locals { s with heap := h, toks := tk } led ps (I (i + 1)) own (.type "range_iterator") Q) E { s with heap := h, toks := tk })
    (done : ∀ (c : σ) (u : Str → Option Value) h tk, I n c → Fr g env.locals h (kstB u (ps c)) → News g env.locals h (led c) → Q .next { s with heap := h, toks := tk }) :
    wpAny (model prog w) A (pyIter (.ref r)) (fun it s₂ => LoopAtV prog w A g env x body Q E it s₂) E s := by
  refine wpAny_pyIter_range hr hsmall ?_
  have W : Walks prog w A s.heap.objs.size [s.heap.objs.size] [s.heap.objs.size] n (fun i v => i < n ∧ ∃ t, v = .int (a₀ + i * st) t)
      (fun i h => IsRangeIter h s.heap.objs.size (a₀ + (i : Nat) * st) ((n : Int) - (i : Nat)) st) := (Walks.range hh _ a₀ st n).bound
  refine ⟨_, _, _, n, _, _, m₀, led c₀, (fun i m nx => ∃ c, nx = led c ∧ (∀ p ∈ led c, p.2.cls ≠ .type "range_iterator") ∧ Binds m (ps c) ∧ I i c), rfl, W, ?_, ?_, ?_, (by show IsRangeIter _ _ _ _ _; rw [hn]; simpa using Heap.get?_push_size _ rfl), F.push _, (fun p hp => ⟨Heap.get?_push_of_some _ (N p hp).1, (N p hp).2⟩), ⟨c₀, rfl, hc, hb, hI⟩, ?_, ?_⟩
  · intro hm
    exact absurd F.ns.lt ((List.mem_singleton.mp hm) ▸ Nat.lt_irrefl _)
  · intro b hb
    rw [List.mem_singleton.mp hb]
    exact next_is_new F
  · intro p hp hI
    exact absurd (Heap.lt_size (N p hp).1) ((List.mem_singleton.mp hI) ▸ Nat.lt_irrefl _)
  · rintro i v m₁ nx s₁ own ⟨hh', tk', rfl⟩ hin ⟨_, t, rfl⟩ ⟨c, rfl, hc', hb', hI'⟩ hoff hown hal hcomp hst F₁ N₁
    have N₂ : News g env.locals hh' (led c ++ own) := fun p hp => N₁ p ((List.mem_append.mp hp).elim (fun h => List.mem_append.mpr (.inr h)) fun h => List.mem_append.mpr (.inl h))
    refine wpAny_mono (turn c i t m₁ hh' tk' own hin hI' hc' (fr_same hb' F₁) N₂) (fun f s₂ p => gpost (fun b hb => ?_) p) fun _ _ e => e
    rw [List.mem_singleton.mp hb]
    exact ⟨_, hcomp _ (.head _) (next_is_new F) _ hst, rfl⟩
  · rintro h' tk m' news' F' N' _ ⟨c, rfl, _, hb', hI'⟩
    exact done c m' h' tk hI' (by rw [hb'.same]; exact F') N'
end
end Mine

end
section
open PySem PySem.W PyProof.Rows PySem.Calls PySem.Spec PyProof.Rows.LCg
set_option Elab.async false
set_option maxRecDepth 100000
set_option linter.unusedVariables false
namespace Mine

/-- the end of a turn of a comprehension that keeps all -/
noncomputable def EEnd (g : Heap) (L : Addr) (m : Str → Option Value) (led : List (Addr × Obj)) (v : Int) (s : Shared) (y : Value) (s₄ : Shared) : Prop := ∃ h' tk' t, y = .int v t ∧ s₄ = { s with heap := h', toks := tk' } ∧ Fr g L h' m ∧ News g L h' led
theorem EEnd.intro {g : Heap} {L : Addr} {m : Str → Option Value} {led news : List (Addr × Obj)} {v v' : Int} {s : Shared} {h' : Heap} {tk' : Nat} {t : Tok} (e : v' = v) (F : Fr g L h' m) (N : News g L h' news) (hn : ∀ p ∈ led, p ∈ news) : EEnd g L m led v s (.int v' t) { s with heap := h', toks := tk' } := by
  subst e
  exact ⟨h', tk', t, rfl, rfl, F, fun p hp => N p (hn p hp)⟩
/-- the turns of a comprehension over enumerate of a list of ints -/
noncomputable def EnumTurns (w : World) (A : Around) (g : Heap) (L : Addr) (m : Str → Option Value) (env : Env) (elt : PySem.Expr) (a b : Str) (scope : Scope) (cl : List (Str × Addr)) (led : List (Addr × Obj)) (ns : List Int) (f : Nat → Int → Int) (s : Shared) : Prop :=
  ∀ (i : Nat) (n : Int) t t' e oe C oC D ys it oit m₂ h tk (E' : Value → Shared → Prop), ns[i]? = some n → NsObj oC m₂ → m₂ a = some (.int i t) → m₂ b = some (.int n t') → Fr g L h m → News g L h ((e, oe) :: (C, oC) :: (D, lst ys) :: (it, oit) :: led) →
    wpAny (model PG w) A (eval elt (compEnvC scope cl C env)) (EEnd g L m ((e, oe) :: (C, oC) :: (D, lst ys) :: (it, oit) :: led) (f i n) { s with heap := h, toks := tk }) E' { s with heap := h, toks := tk }

noncomputable def EnumSrc (w : World) (A : Around) (g : Heap) (L : Addr) (env : Env) (elt : PySem.Expr) (a b : Str) (scope : Scope) (cl : List (Str × Addr)) (Q : Value → Shared → Prop) (xv : Value) (s₁ : Shared) : Prop :=
  ∃ (e it l : Addr) (vs : List Value) (ns : List Int) (m : Str → Option Value) (led : List (Addr × Obj)) (f : Nat → Int → Int), xv = .ref e ∧ A.handled = none ∧ Fr g L s₁.heap m ∧ News g L s₁.heap led ∧ (∃ old, IsEnum s₁.heap e it 0 old) ∧ s₁.heap.IsListIter it l 0 ∧ SrcAt g l vs.toArray led ∧ IntsAre vs ns ∧ vs.length ≤ sizeLine ∧
    e ≠ it ∧ l ≠ e ∧ l ≠ it ∧ L ≠ e ∧ L ≠ it ∧ g.get? e = none ∧ g.get? it = none ∧ (∀ p ∈ led, p.1 ≠ e ∧ p.1 ≠ it) ∧ EnumTurns w A g L m env elt a b scope cl led ns f s₁ ∧
    (∀ D h tk ys, Fr g L h m → News g L h ((D, lst ys) :: led) → Off1 D led → IntsAre ys ((List.range ns.length).map fun i => f i (ns.getD i 0)) → Q (.ref D) { s₁ with heap := h, toks := tk })

section
variable {w : World} {A : Around} {s : Shared} {g : Heap} {L : Addr} {env : Env} {E : Value → Shared → Prop} {Q : Value → Shared → Prop}

theorem enumSrc_call {elt : PySem.Expr} {a b : Str} {scope : Scope} {cl : List (Str × Addr)} {l : Addr} {ns : List Int} {m : Str → Option Value} {led : List (Addr × Obj)} (f : Nat → Int → Int) (hh : A.handled = none) (F : Fr g L s.heap m) (N : News g L s.heap led) (hx : LX g led l ns) (hlen : ns.length < 2000)
    (turns : ∀ h tk, EnumTurns w A g L m env elt a b scope cl led ns f { s with heap := h, toks := tk })
    (done : ∀ D h tk ys, Fr g L h m → News g L h ((D, lst ys) :: led) → Off1 D led → IntsAre ys ((List.range ns.length).map fun i => f i (ns.getD i 0)) → Q (.ref D) { s with heap := h, toks := tk }) :
    wpAny (model PG w) A (call (.type "enumerate") [.ref l]) (EnumSrc w A g L env elt a b scope cl Q) E s := by
  obtain ⟨vs, hS, hi⟩ : ∃ vs : List Value, SrcAt g l vs.toArray led ∧ IntsAre vs ns := by
    rcases hx with ⟨vs, n, e, hi⟩ | ⟨vs, n, e, hi⟩
    · exact ⟨vs, .inl ⟨_, e, rfl, n, rfl⟩, hi⟩
    · exact ⟨vs, .inr ⟨_, e, rfl, n, rfl⟩, hi⟩
  have hl := hS.list F.keep N
  have hlt : l < s.heap.objs.size := by obtain ⟨_, e, _⟩ := hl; exact Heap.lt_size e
  have hLs : L < s.heap.objs.size := F.ns.lt
  refine call_enumerate_list hl fun h' hE hI hsz hk => ?_
  refine ⟨_, _, l, vs, ns, m, led, f, rfl, hh, F.keeps hk, N.grown hk, ⟨_, hE⟩, hI, hS, hi, by rw [hi.length]; exact Nat.le_trans (Nat.le_of_lt hlen) (by decide), Nat.succ_ne_self _, ktu_ne 1 hlt, Nat.ne_of_lt hlt, ktu_ne 1 hLs, Nat.ne_of_lt hLs, ktu_new F (Nat.le_add_right _ _), ktu_new F (Nat.le_refl _), fun p hp => ⟨ktu_ne 1 (Heap.lt_size (N p hp).1), Nat.ne_of_lt (Heap.lt_size (N p hp).1)⟩, ?_, ?_⟩
  · exact turns _ _
  · exact done

theorem m_enumC {elt iter : PySem.Expr} {a b : Str} {pa pb tp : Pos} {kk : Nat} {scope : Scope} {cl : List (Str × Addr)} {pos : Pos} {m₀ : Str → Option Value} (F₀ : Fr g L s.heap m₀)
    (hclos : closureFor scope env = pure cl) (hcell : ∀ y ∈ scope.names, y.2 ≠ .cell) (hkind : scope.kind = .function)
    (hnames : ∀ y ∈ scope.names, y.2 = .local → scope.names.lookup y.1 = some .local) (hxa : scope.names.lookup a = some .local) (hxb : scope.names.lookup b = some .local) (hab : ¬ a = b)
    (h : wpAny (model PG w) A (eval iter env) (EnumSrc w A g L env elt a b scope cl Q) E s)
    (hs : ∀ x, foldedSetIterable iter env x = pure x := by intro _; rfl) :
    wpAny (model PG w) A (eval (.ListComp elt [⟨.Tuple [.Name a pa, .Name b pb] kk tp, iter, [], 0⟩] scope pos) env) Q E s := by
  rw [eval_ListComp]
  refine wpAny_comprehension_free (use := none) rfl hs hclos hkind hnames (wpAny_mono h (fun xv s₂ h₁ => ?_) fun _ _ e => e)
  obtain ⟨I, it, l, vs, ns, m, led, f, rfl, hh, F, N, hE, hI, hS, hi, hsz, hei, hle, hli, hLI, hLit, hI₀, hit₀, off, turns, done⟩ := h₁
  have hlen : vs.length = ns.length := by simpa using hi.length
  obtain ⟨old, hE⟩ := hE
  have hl := hS.list F.keep N
  refine wpAny_pyIter_enum hE ?_
  refine wpAny_newObj_type (wpAny_newFunctionEnv hcell (by intro y hy; simp at hy) (fun h₁ hns₁ hsb₁ => ?_) hkind)
  dsimp only at hns₁ hsb₁ ⊢
  generalize hH2 : s₂.heap.push { cls := .type "list", dict := none, data := .seq ([] : List Value).toArray } = H2 at hns₁ hsb₁ ⊢
  have hC : H2.objs.size = s₂.heap.objs.size + 1 := by rw [← hH2, Heap.size_push]
  have hDC : s₂.heap.objs.size ≠ H2.objs.size := by rw [hC]; exact Nat.ne_of_lt (Nat.lt_succ_self _)
  have below : ∀ b, b < s₂.heap.objs.size → b ≠ H2.objs.size ∧ b ≠ s₂.heap.objs.size := fun b hb => ⟨by rw [hC]; exact Nat.ne_of_lt (Nat.lt_succ_of_lt hb), Nat.ne_of_lt hb⟩
  have hIlt : I < s₂.heap.objs.size := Heap.lt_size hE
  have hitlt : it < s₂.heap.objs.size := by obtain ⟨_, e, _⟩ := hI; exact Heap.lt_size e
  have hllt : l < s₂.heap.objs.size := by obtain ⟨_, e, _⟩ := hl; exact Heap.lt_size e
  have old' : ∀ b o, s₂.heap.get? b = some o → h₁.get? b = some o := fun b o e => hsb₁.extBut b o (below b (Heap.lt_size e)).1 (Heap.get?_push_of_some _ (hH2 ▸ Heap.get?_push_of_some _ e))
  have hacc : h₁.get? s₂.heap.objs.size = some (lst []) := hsb₁.extBut _ _ hDC (Heap.get?_push_of_some _ (hH2 ▸ Heap.get?_push_size _ rfl))
  have fresh : ∀ a, s₂.heap.objs.size ≤ a → s₂.heap.get? a = none := fun a ha => by
    cases e : s₂.heap.get? a with
    | none => rfl
    | some o' => exact absurd (Heap.lt_size e) (Nat.not_lt.mpr ha)
  have fresh₀ : ∀ a, s₂.heap.objs.size ≤ a → g.get? a = none := fun a ha => by
    cases e : g.get? a with
    | none => rfl
    | some o' => have := F.keep a o' e; rw [fresh a ha] at this; cases this
  have hD₀ : g.get? s₂.heap.objs.size = none := fresh₀ _ (Nat.le_refl _)
  have hC₀ : g.get? H2.objs.size = none := fresh₀ _ (by rw [hC]; exact Nat.le_succ _)
  have hLlt : L < s₂.heap.objs.size := F.ns.lt
  have hDL : s₂.heap.objs.size ≠ L := Ne.symm (below L hLlt).2
  have hCL : H2.objs.size ≠ L := Ne.symm (below L hLlt).1
  have hCI : I ≠ H2.objs.size := (below I hIlt).1
  have hDI : I ≠ s₂.heap.objs.size := (below I hIlt).2
  have hCit : it ≠ H2.objs.size := (below it hitlt).1
  have hDit : it ≠ s₂.heap.objs.size := (below it hitlt).2
  have hCl : l ≠ H2.objs.size := (below l hllt).1
  have hDl : l ≠ s₂.heap.objs.size := (below l hllt).2
  have offD : ∀ p ∈ led, p.1 ≠ s₂.heap.objs.size := fun p hp => (below _ (Heap.lt_size (N p hp).1)).2
  have offC : ∀ p ∈ led, p.1 ≠ H2.objs.size := fun p hp => (below _ (Heap.lt_size (N p hp).1)).1
  have hoff1 : Off1 s₂.heap.objs.size led := by
    have : ∀ ll : List (Addr × Obj), (∀ p ∈ ll, p.1 ≠ s₂.heap.objs.size) → Off1 s₂.heap.objs.size ll := by
      intro ll; induction ll with
      | nil => intro _; trivial
      | cons p r ih => intro h; exact ⟨h p (.head _), ih fun q hq => h q (.tail _ hq)⟩
    exact this _ offD
  have W := WalksT.enumerate (prog := PG) (w := w) (A := A) hh I it l hei hle hli vs.toArray
  have hst₁ : (∃ old, IsEnum h₁ I it 0 old) ∧ h₁.IsListIter it l 0 ∧ h₁.IsList l vs.toArray := ⟨⟨_, old' _ _ hE⟩, hI.at fun o e => old' it o e, hl.at fun o e => old' l o e⟩
  have loop : ∀ s₃ : Shared, s₃ = { s₂ with heap := h₁, toks := s₂.toks + ([] : List (Str × Value)).length } →
      codeAny (model PG w) A (.compLoop (.ListComp elt [⟨.Tuple [.Name a pa, .Name b pb] kk tp, iter, [], 0⟩] scope pos) 0 (.ref I) (.ref s₂.heap.objs.size) (compEnvC scope cl H2.objs.size env))
        (compPost (model PG w) A E none Q (.ref s₂.heap.objs.size) H2.objs.size) s₃ := by
    rintro s₃ rfl
    refine kcp_loop
      (fun k s' => ∃ h' tk i ys m', s' = { s₂ with heap := h', toks := tk } ∧ i ≤ vs.length ∧ k = vs.length + 1 - i ∧ ys.length = i ∧ ((∃ old, IsEnum h' I it (i : Int) old) ∧ h'.IsListIter it l i ∧ h'.IsList l vs.toArray) ∧ Fr g L h' m ∧ h'.Ns H2.objs.size m' ∧
        News g L h' ((s₂.heap.objs.size, lst ys) :: led) ∧ IntsAre ys ((List.range i).map fun i => f i (ns.getD i 0))) ?_ (vs.length + 1)
      ⟨h₁, _, 0, [], _, rfl, Nat.zero_le _, rfl, rfl, hst₁, F.keeps old', hns₁, fun p hp => ?_, .nil⟩
    · rintro k s' ⟨h', tk, i, ys, m', rfl, hile, rfl, hyl, hst', F', hn', N', hys⟩
      by_cases hlt : i < vs.length
      · refine W.item i _ _ _ (by simpa using hlt) hst' fun T vals h₂ tk₂ hP hT0 hT hMid hk₂ => ?_
        have hTw := W.apart _ _ _ hMid
        refine W.go _ _ _ i T _ _ _ hMid fun h₃ hst₃ hk₃ => ?_
        obtain ⟨t, x, hx, rfl⟩ := hP
        have hT3 : h₃.IsTuple T #[.int i t, x] := hT.at fun o e => hk₃ T o hTw e
        obtain ⟨n, hn, t', rfl⟩ : ∃ n, ns[i]? = some n ∧ ∃ t', x = .int n t' := by
          obtain ⟨n, t', e, e'⟩ := hi.at i x (by simpa using hx)
          exact ⟨n, e', t', e⟩
        have up₃ : ∀ c o, c ≠ I → c ≠ it → h'.get? c = some o → h₃.get? c = some o := fun c o hc hc' e => hk₃ c o (by simp [hc, hc']) (hk₂ c o (by simp [hc, hc']) e)
        refine kcp_assign (env := compEnvC scope cl H2.objs.size env) hh hT3 (lookup_relabel_local hxa) (lookup_relabel_local hxb) (by simp [compEnvC, relabel, hkind]) (hn'.at' fun o e => up₃ _ o (Ne.symm hCI) (Ne.symm hCit) e) fun h₄ tk₄ hn₄ hs₄ => ?_
        have up : ∀ c o, c ≠ I → c ≠ it → c ≠ H2.objs.size → h'.get? c = some o → h₄.get? c = some o := fun c o h1 h1' h2 e => hs₄ c o h2 (up₃ c o h1 h1' e)
        have hst₄ : ((∃ old, IsEnum h₄ I it ((i + 1 : Nat) : Int) old) ∧ h₄.IsListIter it l (i + 1) ∧ h₄.IsList l vs.toArray) := by
          obtain ⟨⟨od, he⟩, hit, hl'⟩ := hst₃
          exact ⟨⟨od, hs₄ _ _ hCI he⟩, hit.at fun o e => hs₄ _ o hCit e, hl'.at fun o e => hs₄ _ o hCl e⟩
        obtain ⟨oI, heI⟩ : ∃ oI : Obj, h₄.get? I = some oI := by obtain ⟨⟨od, he⟩, _⟩ := hst₄; exact ⟨_, he⟩
        obtain ⟨oit, heit⟩ : ∃ oI : Obj, h₄.get? it = some oI := by obtain ⟨_, ⟨o, he, _⟩, _⟩ := hst₄; exact ⟨_, he⟩
        obtain ⟨oC, heC, hoC⟩ := ns_obj hn₄
        have F₄ : Fr g L h₄ m := ⟨F'.ns.at' fun o e => up _ o hLI hLit (Ne.symm hCL) e, fun c o e => up c o (fun q => by rw [q, hI₀] at e; cases e) (fun q => by rw [q, hit₀] at e; cases e) (fun q => by rw [q, hC₀] at e; cases e) (F'.keep c o e), F'.above⟩
        have N₄ : News g L h₄ ((I, oI) :: (H2.objs.size, oC) :: (s₂.heap.objs.size, lst ys) :: (it, oit) :: led) := fun q hq => by
          rcases List.mem_cons.mp hq with rfl | hq
          · exact ⟨heI, Ne.symm hLI, hI₀⟩
          · rcases List.mem_cons.mp hq with rfl | hq
            · exact ⟨heC, hCL, hC₀⟩
            · rcases List.mem_cons.mp hq with rfl | hq
              · have z := N' _ (.head _)
                exact ⟨up _ _ (Ne.symm hDI) (Ne.symm hDit) hDC z.1, z.2⟩
              · rcases List.mem_cons.mp hq with rfl | hq
                · exact ⟨heit, Ne.symm hLit, hit₀⟩
                · have z := N' q (.tail _ hq)
                  exact ⟨up _ _ (off q hq).1 (off q hq).2 (offC q hq) z.1, z.2⟩
        refine wpAny_mono (turns i n t t' I oI H2.objs.size oC s₂.heap.objs.size ys it oit _ h₄ _ _ hn hoC (by simp [hab]) (by simp) F₄ N₄) (fun y s₅ h₅ => ?_) fun _ _ e => e
        obtain ⟨h₅, tk₅, ty, rfl, rfl, F₅, N₅⟩ := h₅
        have zI := (N₅ _ (.head _)).1
        have zC := (N₅ _ (.tail _ (.head _))).1
        have zD := (N₅ _ (.tail _ (.tail _ (.head _)))).1
        have zit := (N₅ _ (.tail _ (.tail _ (.tail _ (.head _))))).1
        have hst₅ : ((∃ old, IsEnum h₅ I it ((i + 1 : Nat) : Int) old) ∧ h₅.IsListIter it l (i + 1) ∧ h₅.IsList l vs.toArray) := by
          obtain ⟨⟨od, he⟩, ⟨oo, he2, he3⟩, hl'⟩ := hst₄
          have q1 : some oI = some _ := heI.symm.trans he
          have q2 : some oit = some oo := heit.symm.trans he2
          refine ⟨⟨od, ?_⟩, ⟨oo, q2 ▸ zit, he3⟩, ?_⟩
          · exact zI.trans q1
          · exact hS.list F₅.keep fun p hp => N₅ p (.tail _ (.tail _ (.tail _ (.tail _ hp))))
        refine append_at (hsz := by show ys.toArray.size ≤ sizeLine; rw [List.size_toArray, hyl]; exact Nat.le_trans hile hsz) zD fun h₆ hs₆ hD₆ => ?_
        have up₆ : ∀ c o, c ≠ s₂.heap.objs.size → h₅.get? c = some o → h₆.get? c = some o := fun c o hc e => hs₆.extBut c o hc e
        refine ⟨vs.length + 1 - (i + 1), by omega, h₆, tk₅, i + 1, ys ++ [.int (f i n) ty], _, rfl, hlt, rfl, by rw [List.length_append, List.length_singleton, hyl], ?_, F₅.change hs₆ hDL hD₀, (hoC.ns zC).sameBut hs₆ (Ne.symm hDC), fun q hq => ?_, ?_⟩
        · obtain ⟨⟨od, he⟩, hit5, hl5⟩ := hst₅
          exact ⟨⟨od, up₆ _ _ hDI he⟩, hit5.at fun o e => up₆ _ o hDit e, hl5.at fun o e => up₆ _ o hDl e⟩
        · rcases List.mem_cons.mp hq with rfl | hq
          · exact ⟨hD₆.trans (congrArg some (lst_snoc ys _)), hDL, hD₀⟩
          · have z := N₅ q (.tail _ (.tail _ (.tail _ (.tail _ hq))))
            exact ⟨up₆ _ _ (offD q hq) z.1, z.2⟩
        · refine snoc_range hys ?_
          have : ns.getD i 0 = n := by rw [List.getD_eq_getElem?_getD, hn]; rfl
          rw [this]
      · have hin : i = vs.length := Nat.le_antisymm hile (Nat.not_lt.mp hlt)
        subst hin
        refine W.done _ _ _ (by simpa using hst') fun h₂ tk₂ hk₂ => ?_
        have up₂ : ∀ c o, c ≠ I → c ≠ it → h'.get? c = some o → h₂.get? c = some o := fun c o hc hc' e => hk₂ c o (by simp [hc, hc']) e
        refine ⟨m', hn'.at' fun o e => up₂ _ o (Ne.symm hCI) (Ne.symm hCit) e, fun h₃ hs₃ => ?_⟩
        have F₂ : Fr g L h₂ m := ⟨F'.ns.at' fun o e => up₂ _ o hLI hLit e, fun c o e => up₂ c o (fun q => by rw [q, hI₀] at e; cases e) (fun q => by rw [q, hit₀] at e; cases e) (F'.keep c o e), F'.above⟩
        refine done _ h₃ tk₂ ys (F₂.change hs₃ hCL hC₀) (fun q hq => ?_) hoff1 (hlen ▸ hys)
        have z := N' q hq
        rcases List.mem_cons.mp hq with rfl | hq
        · exact ⟨hs₃.extBut _ _ hDC (up₂ _ _ (Ne.symm hDI) (Ne.symm hDit) z.1), z.2⟩
        · exact ⟨hs₃.extBut _ _ (offC q hq) (up₂ _ _ (off q hq).1 (off q hq).2 z.1), z.2⟩
    · rcases List.mem_cons.mp hp with rfl | hp
      · exact ⟨hacc, hDL, hD₀⟩
      · exact ⟨old' _ _ (N p hp).1, (N p hp).2⟩
  exact codeAny_compStart_list (loop _ rfl) (wpAny_pyIter_enum hst₁.1.choose_spec (loop _ rfl))
end
end Mine

end
section
open PySem PySem.W PyProof.Rows PySem.Calls PySem.Spec PyProof.Rows.LCg PyProof.Rows.LCt PySem.SeqAt PyProof.V
set_option Elab.async false
set_option maxRecDepth 100000
set_option linter.unusedVariables false
namespace Mine

/-- two lists, place by place -/
noncomputable def All2 {α β : Type} (P : α → β → Prop) : List α → List β → Prop
  | [], [] => True
  | a :: r, x :: t => P a x ∧ All2 P r t
  | _, _ => False
section
variable {α β : Type} {P P' : α → β → Prop}
theorem All2.mono (h : ∀ a x, P a x → P' a x) : ∀ {r : List α} {t : List β}, All2 P r t → All2 P' r t
  | [], [], _ => trivial
  | _ :: _, _ :: _, x => ⟨h _ _ x.1, All2.mono h x.2⟩
  | [], _ :: _, x => x.elim
  | _ :: _, [], x => x.elim
theorem All2.len : ∀ {r : List α} {t : List β}, All2 P r t → r.length = t.length
  | [], [], _ => rfl
  | _ :: _, _ :: _, x => congrArg (· + 1) (All2.len x.2)
  | [], _ :: _, x => x.elim
  | _ :: _, [], x => x.elim
theorem All2.app {r' : List α} {t' : List β} (y : All2 P r' t') : ∀ {r : List α} {t : List β}, All2 P r t → All2 P (r ++ r') (t ++ t')
  | [], [], _ => y
  | _ :: _, _ :: _, x => ⟨x.1, All2.app y x.2⟩
  | [], _ :: _, x => x.elim
  | _ :: _, [], x => x.elim
theorem All2.snoc {a : α} {x : β} {r : List α} {t : List β} (h : All2 P r t) (hx : P a x) : All2 P (r ++ [a]) (t ++ [x]) := All2.app (r' := [a]) (t' := [x]) ⟨hx, trivial⟩ h
theorem All2.at : ∀ {r : List α} {t : List β} {i : Nat} {a : α}, All2 P r t → r[i]? = some a → ∃ x, t[i]? = some x ∧ P a x
  | [], [], _, _, _, h => by simp at h
  | a :: r, x :: t, 0, _, h, e => by
    simp only [List.getElem?_cons_zero, Option.some.injEq] at e
    subst e
    exact ⟨x, rfl, h.1⟩
  | a :: r, x :: t, i + 1, _, h, e => by
    simp only [List.getElem?_cons_succ] at e ⊢
    exact All2.at h.2 e
  | [], _ :: _, _, _, x, _ => x.elim
  | _ :: _, [], _, _, x, _ => x.elim
theorem All2.erase (i : Nat) : ∀ {r : List α} {t : List β}, All2 P r t → All2 P (r.eraseIdx i) (t.eraseIdx i)
  | [], [], _ => trivial
  | a :: r, x :: t, h => by
    cases i with
    | zero => exact h.2
    | succ j => exact ⟨h.1, All2.erase j h.2⟩
  | [], _ :: _, x => x.elim
  | _ :: _, [], x => x.elim
theorem All2.rev : ∀ {r : List α} {t : List β}, All2 P r t → All2 P r.reverse t.reverse
  | [], [], _ => trivial
  | a :: r, x :: t, h => by
    rw [List.reverse_cons, List.reverse_cons]
    exact All2.snoc (All2.rev h.2) h.1
  | [], _ :: _, x => x.elim
  | _ :: _, [], x => x.elim
end

abbrev refs (rs : List Addr) : List Value := rs.map Value.ref
/-- a new list of lists of ints -/
noncomputable def RetLL (h h' : Heap) (r : Addr) (xs : List (List Int)) : Prop :=
  Kp h h' ∧ ∃ rs n vl, h'.get? r = some (listOf (refs rs).toArray n) ∧ h.get? r = none ∧ (∀ p ∈ vl, h'.get? p.1 = some p.2 ∧ h.get? p.1 = none) ∧ Lists vl ∧ (∀ p ∈ vl, p.1 ≠ r) ∧ All2 (LD vl) rs xs
theorem news_addL {h₀ h h' : Heap} {L r : Addr} {m : Str → Option Value} {o : Obj} {vl news : List (Addr × Obj)} (F : Fr h₀ L h m) (N : News h₀ L h news) (k : Kp h h') (hr : h'.get? r = some o) (hf : h.get? r = none) (hv : ∀ p ∈ vl, h'.get? p.1 = some p.2 ∧ h.get? p.1 = none) :
    News h₀ L h' ((r, o) :: (vl ++ news)) := by
  intro p hp
  rcases List.mem_cons.mp hp with rfl | hp
  · exact news_add F N k hr hf _ (.head _)
  · rcases List.mem_append.mp hp with hp | hp
    · exact news_add F N k (hv p hp).1 (hv p hp).2 _ (.head _)
    · exact news_keeps N k p hp
theorem retLL {s : Shared} {g h' : Heap} {L r : Addr} {m : Str → Option Value} {news vl : List (Addr × Obj)} {rs : List Addr} {n : Nat} {xs ys : List (List Int)} (hg : g = s.heap) (F : Fr g L h' m) (N : News g L h' news) (hm : (r, listOf (refs rs).toArray n) ∈ news) (hv : ∀ p ∈ vl, p ∈ news)
    (hl : Lists vl) (ho : ∀ p ∈ vl, p.1 ≠ r) (hx : All2 (LD vl) rs xs) (e : xs = ys) : RetLL s.heap h' r ys := by
  subst e
  subst hg
  exact ⟨F.keep, rs, n, vl, (N _ hm).1, (N _ hm).2.2, fun p hp => ⟨(N _ (hv p hp)).1, (N _ (hv p hp)).2.2⟩, hl, ho, hx⟩
theorem off_new {g h : Heap} {L r : Addr} {news : List (Addr × Obj)} (N : News g L h news) (hf : h.get? r = none) : ∀ p ∈ news, p.1 ≠ r := fun p hp e => by
  have := (N p hp).1
  rw [e, hf] at this
  cases this
theorem ne_new {g h : Heap} {L r : Addr} {news : List (Addr × Obj)} (N : News g L h news) (hf : h.get? r = none) : ∀ p ∈ news, @Ne Nat p.1 r := off_new N hf
theorem LD.li {g h : Heap} {L l : Addr} {led news : List (Addr × Obj)} {ns : List Int} (x : LD led l ns) (N : News g L h news) (hs : ∀ p ∈ led, p ∈ news) : LI h l ns := let ⟨vs, n, a, b⟩ := x; ⟨vs, n, (N _ (hs _ a)).1, b⟩
theorem Lists.app {a b : List (Addr × Obj)} (x : Lists a) (y : Lists b) : Lists (a ++ b) := fun p hp => (List.mem_append.mp hp).elim (x p) (y p)

/-! two lists of lists of ints compared -/
noncomputable def dat (xs : List (List Int)) : PyData := .list (xs.map fun x => .list (x.map PyData.int))
theorem reads_LL {h : Heap} {l : Addr} {rs : List Addr} {n : Nat} {xs : List (List Int)} (ho : h.get? l = some (listOf (refs rs).toArray n)) (hx : All2 (LI h) rs xs) : ∃ as, Reads h (.ref l) (dat xs) as := by
  have go : ∀ {rs : List Addr} {xs : List (List Int)}, All2 (LI h) rs xs → ∃ as, ReadsAll h (refs rs) (xs.map fun x => PyData.list (x.map PyData.int)) as := by
    intro rs
    induction rs with
    | nil =>
      intro xs hx
      cases xs with
      | nil => exact ⟨_, .nil⟩
      | cons _ _ => exact hx.elim
    | cons a r ih =>
      intro xs hx
      cases xs with
      | nil => exact hx.elim
      | cons x t =>
        obtain ⟨as, h1⟩ := ih hx.2
        obtain ⟨vs, hl, hi⟩ := hx.1.list
        exact ⟨_, .cons (reads_of_ints hl hi) h1⟩
  obtain ⟨as, h1⟩ := go hx
  exact ⟨_, reads_list_at ho rfl rfl (by simpa using h1)⟩
theorem lay_LL : ∀ xs : List (List Int), PyData.canLayAll0 (xs.map fun x => PyData.list (x.map PyData.int)) = true
  | [] => by simp [PyData.canLayAll0]
  | x :: r => by simp [PyData.canLayAll0, PyData.canLay0, canLayAll0_ints x, lay_LL r]
theorem depth_LL : ∀ xs : List (List Int), PyData.depthAll (xs.map fun x => PyData.list (x.map PyData.int)) ≤ 2
  | [] => by simp [PyData.depthAll]
  | x :: r => by
    have h1 := depth_LL r
    have h2 := PySem.W.depthAll_ints x
    simp only [List.map_cons, PyData.depthAll, PyData.depth]
    omega
theorem shaped_LL (xs : List (List Int)) : shaped (dat xs) = true := by
  have h1 := depth_LL xs
  have h2 : PyData.depth (dat xs) ≤ 64 := by unfold dat; simp only [PyData.depth]; omega
  show (PyData.canLay0 (dat xs) && decide (PyData.depth (dat xs) ≤ 64)) = true
  rw [Bool.and_eq_true]
  exact ⟨by unfold dat; simp only [PyData.canLay0]; exact lay_LL xs, decide_eq_true h2⟩
theorem eqv_LL : ∀ xs ys : List (List Int), PyData.eqvAll (xs.map fun x => PyData.list (x.map PyData.int)) (ys.map fun x => PyData.list (x.map PyData.int)) = decide (xs = ys)
  | [], [] => by simp [PyData.eqvAll]
  | [], _ :: _ => by simp [PyData.eqvAll]
  | _ :: _, [] => by simp [PyData.eqvAll]
  | a :: r, b :: t => by
    simp only [List.map_cons, PyData.eqvAll, PyData.eqv, eqv_LL r t, ked_eqvAll]
    by_cases h : a = b <;> by_cases h' : r = t <;> simp [h, h']
section
variable {w : World} {A : Around} {s : Shared} {E Q : Value → Shared → Prop}
theorem eq_LL {a b : Addr} {rs us : List Addr} {n k : Nat} {xs ys : List (List Int)} (ha : s.heap.get? a = some (listOf (refs rs).toArray n)) (hx : All2 (LI s.heap) rs xs) (hb : s.heap.get? b = some (listOf (refs us).toArray k)) (hy : All2 (LI s.heap) us ys) (hu : A.units + 64 < cLine)
    (h : Q (.bool (decide (xs = ys))) s) : wpAny (model PG w) A (compareOp .Eq (.ref a) (.ref b)) Q E s := by
  obtain ⟨_, r1⟩ := reads_LL ha hx
  obtain ⟨_, r2⟩ := reads_LL hb hy
  refine eq_dataH r1 r2 (shaped_LL _) (shaped_LL _) hu ?_
  unfold dat
  simp only [PyData.eqv]
  rw [eqv_LL]
  exact h
theorem ne_LL {a b : Addr} {rs us : List Addr} {n k : Nat} {xs ys : List (List Int)} (ha : s.heap.get? a = some (listOf (refs rs).toArray n)) (hx : All2 (LI s.heap) rs xs) (hb : s.heap.get? b = some (listOf (refs us).toArray k)) (hy : All2 (LI s.heap) us ys) (hu : A.units + 64 < cLine)
    (h : Q (.bool (!decide (xs = ys))) s) : wpAny (model PG w) A (compareOp .NotEq (.ref a) (.ref b)) Q E s := by
  obtain ⟨_, r1⟩ := reads_LL ha hx
  obtain ⟨_, r2⟩ := reads_LL hb hy
  refine ne_dataH r1 r2 (shaped_LL _) (shaped_LL _) hu ?_
  unfold dat
  simp only [PyData.eqv]
  rw [eqv_LL]
  exact h
end

theorem ll_li {g h : Heap} {L : Addr} {news vl : List (Addr × Obj)} {rs : List Addr} {xs : List (List Int)} (x : All2 (LD vl) rs xs) (N : News g L h news) (hs : ∀ p ∈ vl, p ∈ news) : All2 (LI h) rs xs := x.mono fun _ _ y => y.li N hs
section
variable {w : World} {A : Around} {s : Shared} {E Q : Value → Shared → Prop} {g : Heap} {L : Addr}
theorem eq_LLnil {a b : Addr} {rs : List Addr} {n k : Nat} {xs : List (List Int)} {news vl : List (Addr × Obj)} (N : News g L s.heap news) (hm : (a, listOf (refs rs).toArray n) ∈ news) (hx : All2 (LD vl) rs xs) (hs : ∀ p ∈ vl, p ∈ news) (hb : (b, listOf #[] k) ∈ news) (hu : A.units + 64 < cLine)
    (h : Q (.bool (decide (xs = []))) s) : wpAny (model PG w) A (compareOp .Eq (.ref a) (.ref b)) Q E s :=
  eq_LL (N _ hm).1 (ll_li hx N hs) (us := []) (ys := []) (N _ hb).1 trivial hu h
theorem eq_LInil {a b : Addr} {ns : List Int} {k : Nat} {news : List (Addr × Obj)} (N : News g L s.heap news) (x : LI s.heap a ns) (hb : (b, listOf #[] k) ∈ news) (hu : A.units + 64 < cLine)
    (h : Q (.bool (decide (ns = []))) s) : wpAny (model PG w) A (compareOp .Eq (.ref a) (.ref b)) Q E s :=
  eq_LI x (LI.news (vs := []) (ns := []) N hb .nil) hu h
theorem ne_LLnil {a b : Addr} {rs : List Addr} {n k : Nat} {xs : List (List Int)} {news vl : List (Addr × Obj)} (N : News g L s.heap news) (hm : (a, listOf (refs rs).toArray n) ∈ news) (hx : All2 (LD vl) rs xs) (hs : ∀ p ∈ vl, p ∈ news) (hb : (b, listOf #[] k) ∈ news) (hu : A.units + 64 < cLine)
    (h : Q (.bool (!decide (xs = []))) s) : wpAny (model PG w) A (compareOp .NotEq (.ref a) (.ref b)) Q E s :=
  ne_LL (N _ hm).1 (ll_li hx N hs) (us := []) (ys := []) (N _ hb).1 trivial hu h
end
/-! a for over a range whose turn may bind any target and change its ledger -/
noncomputable def PObj (o : Obj) : Prop := (∃ its n, o.data = .seq its n) ∨ ∃ v, o.data = .cell v
noncomputable def PObjs (led : List (Addr × Obj)) : Prop := ∀ p ∈ led, PObj p.2
theorem PObjs.nil : PObjs [] := fun _ h => nomatch h
theorem PObjs.cons {l : Addr} {o : Obj} {led : List (Addr × Obj)} (h : PObj o) (r : PObjs led) : PObjs ((l, o) :: led) := fun p hp => by
  rcases List.mem_cons.mp hp with rfl | hp
  · exact h
  · exact r p hp
theorem PObj.list {its : Array Value} {n : Nat} : PObj (listOf its n) := .inl ⟨_, _, rfl⟩
theorem PObj.cell {o : Obj} {v : Option Value} (h : o.data = .cell v) : PObj o := .inr ⟨_, h⟩
theorem PObjs.lists {vl : List (Addr × Obj)} (h : Lists vl) : PObjs vl := fun p hp => by
  obtain ⟨its, n, e⟩ := h p hp
  exact .inl ⟨its, n, by rw [e]⟩
theorem PObjs.app {a b : List (Addr × Obj)} (x : PObjs a) (y : PObjs b) : PObjs (a ++ b) := fun p hp => (List.mem_append.mp hp).elim (x p) (y p)
section
variable {prog : Program} {w : World} {A : Around} {E : Value → Shared → Prop} {Q : Flow → Shared → Prop} {s : Shared} {env : Env} {g : Heap} {L : Addr} {σ : Type} {body : List Stmt}
noncomputable def HEnd (g : Heap) (L : Addr) (s : Shared) (led : σ → List (Addr × Obj)) (ps : σ → List (Str × Value)) (I : σ → Prop) (own : List (Addr × Obj)) (s₂ : Shared) : Prop :=
  ∃ (c : σ) (h' : Heap) (tk : Nat) (m' : Str → Option Value) (news' : List (Addr × Obj)), s₂ = { s with heap := h', toks := tk } ∧ Fr g L h' m' ∧ News g L h' news' ∧ (∀ p ∈ led c, p ∈ news') ∧ (∀ p ∈ own, p ∈ news') ∧ PObjs (led c) ∧ Binds m' (ps c) ∧ I c
noncomputable def HPost (g : Heap) (L : Addr) (s : Shared) (led : σ → List (Addr × Obj)) (ps : σ → List (Str × Value)) (I : σ → Prop) (own : List (Addr × Obj)) (Q : Flow → Shared → Prop) (f : Flow) (s₂ : Shared) : Prop :=
  match f with
  | .ret v => Q (.ret v) s₂
  | .brk => Q .next s₂
  | _ => HEnd g L s led ps I own s₂
theorem HEnd.intro {s : Shared} {led : σ → List (Addr × Obj)} {ps : σ → List (Str × Value)} {I : σ → Prop} {own : List (Addr × Obj)} {h' : Heap} {tk : Nat} {m' : Str → Option Value} {news' : List (Addr × Obj)} (c : σ)
    (F : Fr g L h' m') (N : News g L h' news') (hn : ∀ p ∈ led c, p ∈ news') (ho : ∀ p ∈ own, p ∈ news') (hc : PObjs (led c)) (hb : Binds m' (ps c)) (hI : I c) : HEnd g L s led ps I own { s with heap := h', toks := tk } :=
  ⟨c, h', tk, m', news', rfl, F, N, hn, ho, hc, hb, hI⟩
theorem hpost {wr : List Addr} {led : σ → List (Addr × Obj)} {ps : σ → List (Str × Value)} {I : σ → Prop} {fixed own : List (Addr × Obj)} {s₁ s₂ : Shared} {f : Flow} (hw : ∀ b ∈ wr, ∃ o vs, (b, o) ∈ own ∧ o.data = .fields vs) (hf : ∀ p ∈ fixed, p.1 ∉ wr)
    (p : HPost g L s₁ led ps I (fixed ++ own) Q f s₂) : LoopStepV g L wr own (fun m nx => ∃ c, nx = led c ++ fixed ∧ PObjs (led c) ∧ Binds m (ps c) ∧ I c) s₁ (fun v s' => Q (.ret v) s') (fun s' => Q .next s') f s₂ := by
  have up : HEnd g L s₁ led ps I (fixed ++ own) s₂ → LoopStepU g L wr own (fun m nx => ∃ c, nx = led c ++ fixed ∧ PObjs (led c) ∧ Binds m (ps c) ∧ I c) s₁ .next s₂ := by
    rintro ⟨c, h', tk, m', news', rfl, F, N, hn, ho, hc, hb, hI⟩
    refine ⟨rfl, h', tk, m', led c ++ fixed, rfl, F, fun p hp => N p ?_, fun p hp hq => ?_, c, rfl, hc, hb, hI⟩
    · rcases List.mem_append.mp hp with hp | hp
      · exact ho p (List.mem_append_right _ hp)
      · rcases List.mem_append.mp hp with hp | hp
        · exact hn p hp
        · exact ho p (List.mem_append_left _ hp)
    · rcases List.mem_append.mp hp with hp | hp
      · obtain ⟨o, vs, hm, hd⟩ := hw _ hq
        have h1 := (N _ (ho _ (List.mem_append_right _ hm))).1
        have h2 := (N _ (hn _ hp)).1
        rw [h1] at h2
        have e : o = p.2 := Option.some.inj h2
        rcases hc p hp with ⟨its, n, h3⟩ | ⟨v, h3⟩
        · rw [← e, hd] at h3; cases h3
        · rw [← e, hd] at h3; cases h3
      · exact hf p hp hq
  cases f with
  | ret v => exact .ret p
  | brk => exact .brk p
  | next => exact .next (up p)
  | cont => exact .cont (up p)
theorem letGo_name {x : Str} {px : Pos} {it v : Value} {Q' : Unit → Shared → Prop} {E' : Value → Shared → Prop} {s' : Shared} (h : Q' () s') : wpAny (model prog w) A (letOwnedTupleGo (.Name x px) it v) Q' E' s' := wpAny_pure h
theorem m_rangeT {x : Str} {px : Pos} {r : Addr} {a₀ b₀ st : Int} {t₀ u₀ v₀ : Tok} {m₀ : Str → Option Value} {fixed : List (Addr × Obj)} (n : Nat) (led : σ → List (Addr × Obj)) (ps : σ → List (Str × Value)) (I : Nat → σ → Prop) (c₀ : σ)
    (hh : A.handled = none) (hr : IsRange s.heap r a₀ b₀ st t₀ u₀ v₀) (hsmall : Builtin.Range.small a₀ b₀ st = true) (hn : Builtin.Range.rangeSize a₀ b₀ st = (n : Int)) (F : Fr g env.locals s.heap m₀) (N : News g env.locals s.heap (led c₀ ++ fixed)) (hc : PObjs (led c₀)) (hb : Binds m₀ (ps c₀)) (hI : Hold (I 0 c₀))
    (turn : ∀ (c : σ) (i : Nat) t (u : Str → Option Value) h tk own, i < n → I i c → PObjs (led c) → (∀ p ∈ own, ∀ q ∈ led c ++ fixed, p.1 ≠ q.1) →
      Fr g env.locals h (kstB u (ps c)) → News g env.locals h (led c ++ (fixed ++ own)) →
      wpAny (model prog w) A (assign (.Name x px) env (.int (a₀ + (i : Int) * st) t)) (fun _ s₃ => wpAny (model prog w) A (execs body env) (HPost g env.locals { s with heap := h, toks := tk } led ps (I (i + 1)) (fixed ++ own) Q) E s₃) E { s with heap := h, toks := tk })
    (done : ∀ (c : σ) (u : Str → Option Value) h tk, I n c → Fr g env.locals h (kstB u (ps c)) → News g env.locals h (led c ++ fixed) → Q .next { s with heap := h, toks := tk }) :
    wpAny (model prog w) A (pyIter (.ref r)) (fun it s₂ => TurnsAt prog w A g env (.Name x px) body Q E it s₂) E s := by
  refine wpAny_pyIter_range hr hsmall ?_
  have W : Walks prog w A s.heap.objs.size [s.heap.objs.size] [s.heap.objs.size] n (fun i v => i < n ∧ ∃ t, v = .int (a₀ + i * st) t)
      (fun i h => IsRangeIter h s.heap.objs.size (a₀ + (i : Nat) * st) ((n : Int) - (i : Nat)) st) := (Walks.range hh _ a₀ st n).bound
  refine ⟨_, _, _, n, _, _, _, m₀, led c₀ ++ fixed, (fun i m nx => ∃ c, nx = led c ++ fixed ∧ PObjs (led c) ∧ Binds m (ps c) ∧ I i c), rfl, KTurns.ofWalks W fun i v s' Q' E' st q => letGo_name q, ?_, ?_, ?_, (by show IsRangeIter _ _ _ _ _; rw [hn]; simpa using Heap.get?_push_size _ rfl), F.push _, (fun p hp => ⟨Heap.get?_push_of_some _ (N p hp).1, (N p hp).2⟩), ⟨c₀, rfl, hc, hb, hI⟩, ?_, ?_⟩
  · intro hm
    exact absurd F.ns.lt ((List.mem_singleton.mp hm) ▸ Nat.lt_irrefl _)
  · intro b hb
    rw [List.mem_singleton.mp hb]
    exact next_is_new F
  · intro p hp hI
    exact absurd (Heap.lt_size (N p hp).1) ((List.mem_singleton.mp hI) ▸ Nat.lt_irrefl _)
  · rintro i v m₁ nx hh' tk' own hin ⟨_, t, rfl⟩ ⟨c, rfl, hc', hb', hI'⟩ hoff hown hal hcomp hst F₁ N₁
    have N₂ : News g env.locals hh' (led c ++ (fixed ++ own)) := fun p hp => N₁ p (by
      rcases List.mem_append.mp hp with hp | hp
      · exact List.mem_append_right _ (List.mem_append_left _ hp)
      · rcases List.mem_append.mp hp with hp | hp
        · exact List.mem_append_right _ (List.mem_append_right _ hp)
        · exact List.mem_append_left _ hp)
    rw [← hb'.same] at F₁
    refine wpAny_mono (turn c i t m₁ hh' tk' own hin hI' hc' (fun p hp q hq e => hoff q hq (e ▸ hown p hp)) F₁ N₂) (fun _ s₃ p => wpAny_mono p (fun f s₂ p => hpost (fun b hb => ?_) (fun p hp => hoff p (List.mem_append_right _ hp)) p) fun _ _ e => e) fun _ _ e => e
    rw [List.mem_singleton.mp hb]
    exact ⟨_, _, hcomp _ (.head _) (next_is_new F) _ hst, rfl⟩
  · rintro h' tk m' news' F' N' _ ⟨c, rfl, _, hb', hI'⟩
    exact done c m' h' tk hI' (by rw [hb'.same]; exact F') N'

/-! a comprehension with a test, by an invariant -/
theorem compEnd_mono {h₀ : Heap} {m : Str → Option Value} {s₁ s₂ : Shared} {I C D : Addr} {oI oC oD : Obj} {S : List (Addr × Obj) → Prop} {rest rest' : Value → List (Addr × Obj) → Prop} {y : Value} (x : CompEnd h₀ L m s₁ I oI C oC D oD S rest y s₂) (h : ∀ n, rest y n → rest' y n) : CompEnd h₀ L m s₁ I oI C oC D oD S rest' y s₂ := by
  obtain ⟨h', tk, news', e, F, N, o, hS, r⟩ := x
  exact ⟨h', tk, news', e, F, N, o, hS, h _ r⟩
theorem compT_ind {ct elt : PySem.Expr} {x : Str} {scope : Scope} {cl : List (Str × Addr)} {m : Str → Option Value} {S : List (Addr × Obj) → Prop} {P : Nat → Value → Prop} {Fin : List Value → List (Addr × Obj) → Prop} {n : Nat} (J : Nat → List Value → List (Addr × Obj) → Prop)
    (step : ∀ i ys news, i < n → J i ys news → ∀ v I oI C oC D m₂ h tk (E' : Value → Shared → Prop), P i v → NsObj oC m₂ → m₂ x = some v → Fr g L h m → News g L h ((I, oI) :: (C, oC) :: (D, lst ys) :: news) → Off3 I C D news → ((@Ne Nat I C) ∧ (@Ne Nat I D) ∧ (@Ne Nat C D)) →
      wpAny (model prog w) A (isTrue ct (compEnvC scope cl C env) (eval ct (compEnvC scope cl C env))) (fun ok s' => if ok = true then
        wpAny (model prog w) A (eval elt (compEnvC scope cl C env)) (CompEnd g L m { s with heap := h, toks := tk } I oI C oC D (lst ys) S (fun y news' => J (i + 1) (ys ++ [y]) news')) E' s'
        else CompEnd g L m { s with heap := h, toks := tk } I oI C oC D (lst ys) S (fun _ news' => J (i + 1) ys news') Value.none s') E' { s with heap := h, toks := tk })
    (fin : ∀ ys news, J n ys news → Fin ys news) : ∀ (k i : Nat) (ys : List Value) (news : List (Addr × Obj)), i + k = n → J i ys news → CompRestT prog w A g L m env ct elt x scope cl s S P Fin k i ys news
  | 0, i, ys, news, e, hJ => by
    obtain rfl : i = n := by omega
    exact CompRestT.zero (fin ys news hJ)
  | k + 1, i, ys, news, e, hJ => by
    refine CompRestT.succ fun v I oI C oC D m₂ h tk E' hP hC hx F N off ne => ?_
    refine wpAny_mono (step i ys news (by omega) hJ v I oI C oC D m₂ h tk E' hP hC hx F N off ne) (fun ok s' q => ?_) fun _ _ e => e
    cases ok with
    | true =>
      simp only [if_true] at q ⊢
      exact wpAny_mono q (fun y s₂ q => compEnd_mono q fun n' r => compT_ind J step fin k (i + 1) _ n' (by omega) r) fun _ _ e => e
    | false =>
      simp only [Bool.false_eq_true, if_false] at q ⊢
      exact compEnd_mono q fun n' r => compT_ind J step fin k (i + 1) _ n' (by omega) r

/-- the end of a test that keeps all -/
noncomputable def TEnd (g : Heap) (L : Addr) (m : Str → Option Value) (led : List (Addr × Obj)) (b : Bool) (s : Shared) (y : Bool) (s₄ : Shared) : Prop := ∃ h' tk', y = b ∧ s₄ = { s with heap := h', toks := tk' } ∧ Fr g L h' m ∧ News g L h' led
theorem TEnd.intro {m : Str → Option Value} {led news : List (Addr × Obj)} {b b' : Bool} {s : Shared} {h' : Heap} {tk' : Nat} (e : b' = b) (F : Fr g L h' m) (N : News g L h' news) (hn : ∀ p ∈ led, p ∈ news) : TEnd g L m led b s b' { s with heap := h', toks := tk' } := by
  subst e
  exact ⟨h', tk', rfl, rfl, F, fun p hp => N p (hn p hp)⟩
/-- [one for one in a list of lists of ints if test] -/
theorem filt_src {ct elt : PySem.Expr} {x : Str} {scope : Scope} {cl : List (Str × Addr)} {m : Str → Option Value} {ax : Addr} {rs : List Addr} {n : Nat} {xs : List (List Int)} {vl led : List (Addr × Obj)} {Fin : Shared → List Value → List (Addr × Obj) → Prop} (test : List Int → Bool)
    (hh : A.handled = none) (F : Fr g L s.heap m) (N : News g L s.heap led) (hm : (ax, listOf (refs rs).toArray n) ∈ led) (hv : ∀ p ∈ vl, p ∈ led) (hx : All2 (LD vl) rs xs) (hz : rs.length < 2000)
    (turn : ∀ (a : Addr) (v : List Int) I oI C oC D ys m₂ h tk (E' : Value → Shared → Prop), LD vl a v → v ∈ xs → NsObj oC m₂ → m₂ x = some (.ref a) → Fr g L h m → News g L h ((I, oI) :: (C, oC) :: (D, lst ys) :: led) →
      wpAny (model prog w) A (isTrue ct (compEnvC scope cl C env) (eval ct (compEnvC scope cl C env))) (TEnd g L m ((I, oI) :: (C, oC) :: (D, lst ys) :: led) (test v) { s with heap := h, toks := tk }) E' { s with heap := h, toks := tk })
    (one : ∀ (v : Value) I oI C oC D ys m₂ h tk (E' : Value → Shared → Prop) (Q' : Value → Shared → Prop), NsObj oC m₂ → m₂ x = some v → Fr g L h m → News g L h ((I, oI) :: (C, oC) :: (D, lst ys) :: led) → Q' v { s with heap := h, toks := tk } →
      wpAny (model prog w) A (eval elt (compEnvC scope cl C env)) Q' E' { s with heap := h, toks := tk })
    (fin : ∀ h₁ rs', All2 (LD vl) rs' (xs.filter test) → (∀ a ∈ rs', a ∈ rs) → Fin { s with heap := h₁ } (refs rs') led) :
    CompSrcT prog w A g L m env ct elt x scope cl Fin (.ref ax) s := by
  have hsz : (refs rs).toArray.size = rs.length := by simp
  refine CompSrcT.ledger hh F N hm (by rw [hsz, sizeLine_eq]; omega) fun h₁ => ?_
  refine compT_ind (n := (refs rs).toArray.size) (fun i ys news => news = led ∧ ∃ rs', ys = refs rs' ∧ All2 (LD vl) rs' ((xs.take i).filter test) ∧ ∀ a ∈ rs', a ∈ rs) ?_ ?_ _ 0 [] led (by omega) ⟨rfl, [], rfl, by simp [All2], fun _ h => nomatch h⟩
  · rintro i ys news hi ⟨rfl, rs', rfl, hrs, hsub⟩ v I oI C oC D m₂ h tk E' hP hC hma F N off ne
    have hi2 : i < rs.length := by rw [← hsz]; exact hi
    have hvr : v = .ref rs[i] := by
      have : (refs rs).toArray[i]? = some (Value.ref rs[i]) := by simp [hi2]
      rw [this] at hP
      exact (Option.some.inj hP).symm
    subst hvr
    obtain ⟨z, hz1, hz2⟩ := hx.at (List.getElem?_eq_getElem hi2)
    have hzm : z ∈ xs := List.mem_of_getElem? hz1
    have htake : xs.take (i + 1) = xs.take i ++ [z] := by rw [List.take_add_one, hz1]; rfl
    refine wpAny_mono (turn _ z I oI C oC D _ m₂ h tk E' hz2 hzm hC hma F N) (fun ok s' q => ?_) fun _ _ e => e
    obtain ⟨h', tk', rfl, rfl, F', N'⟩ := q
    cases ht : test z with
    | true =>
      simp only [if_true]
      refine one _ I oI C oC D _ m₂ h' tk' E' _ hC hma F' N' ?_
      refine ⟨h', tk', news, rfl, F', N', off, .inr ⟨_, hm, rfl, _, rfl⟩, rfl, rs' ++ [rs[i]], by simp, ?_, fun a ha => ?_⟩
      · rw [htake, List.filter_append, show [z].filter test = [z] by simp [ht]]
        exact hrs.snoc hz2
      · rcases List.mem_append.mp ha with ha | ha
        · exact hsub a ha
        · rw [List.mem_singleton.mp ha]; exact List.getElem_mem hi2
    | false =>
      simp only [Bool.false_eq_true, if_false]
      refine ⟨h', tk', news, rfl, F', N', off, .inr ⟨_, hm, rfl, _, rfl⟩, rfl, rs', rfl, ?_, hsub⟩
      rw [htake, List.filter_append, show [z].filter test = [] by simp [ht]]
      simpa using hrs
  · rintro ys news ⟨rfl, rs', rfl, hrs, hsub⟩
    refine fin _ rs' ?_ hsub
    rw [hsz, hx.len, List.take_length] at hrs
    exact hrs
end

theorem off_led {own led : List (Addr × Obj)} {adr : List Addr} (h : ∀ p ∈ own, ∀ q ∈ led, p.1 ≠ q.1) (hs : ∀ b ∈ adr, b ∈ led.map (·.1)) : OwnOff own adr := fun p hp b hb => by
  obtain ⟨q, hq, rfl⟩ := List.mem_map.mp (hs b hb)
  exact h p hp q hq
theorem dec_f {b : Bool} (h : ¬ b = true) : b = false := by cases b with
  | true => exact absurd rfl h
  | false => rfl
/-! the primes of the law -/
noncomputable def primTest (q : Int) (m : Nat) (row one : List Int) : Bool := decide (2 * ((one.length : Int) - 1) ≤ (m : Int)) && decide (lleftL row one q = [])
noncomputable def primStep (q : Int) (m : Nat) (xs : List (List Int)) (j : Nat) : List (List Int) := if xs.filter (primTest q m (lcntL j m q)) = [] then xs ++ [lcntL j m q] else xs
noncomputable def primIn (q : Int) (m : Nat) : Nat → List (List Int) → List (List Int)
  | 0, xs => xs
  | j + 1, xs => primStep q m (primIn q m j xs) j
noncomputable def primesL (q : Int) : Nat → List (List Int)
  | 0 => []
  | i + 1 => primIn q (i + 1) (q.toNat ^ (i + 1)) (primesL q i)
/-- what stands among the primes -/
noncomputable def PrOk (q : Int) (x : List Int) : Prop := Dg q x ∧ lastL x = 1 ∧ 0 < x.length ∧ x.length < 10
theorem lcGo_dg {q : Int} (hq : 0 < q) (e : Nat) : ∀ i, Dg q (lcGo q i e)
  | 0 => Dg.nil
  | i + 1 => fun x hx => by
    unfold lcGo at hx
    rcases List.mem_append.mp hx with hx | hx
    · exact lcGo_dg hq e i x hx
    · rw [List.mem_singleton.mp hx]; exact Dg.emod hq _
theorem lcnt_ok {q : Int} (hq : 2 ≤ q) {e m : Nat} (hm : m < 9) : PrOk q (lcntL e m q) := by
  have hl : (lcntL e m q).length = m + 1 := by unfold lcntL; rw [List.length_append, lcGo_len]; rfl
  refine ⟨fun x hx => ?_, ?_, by omega, by omega⟩
  · unfold lcntL at hx
    rcases List.mem_append.mp hx with hx | hx
    · exact lcGo_dg (by omega) e m x hx
    · rw [List.mem_singleton.mp hx]; omega
  · unfold lastL
    rw [hl]
    unfold lcntL
    rw [List.getD_eq_getElem?_getD, List.getElem?_append_right (by rw [lcGo_len]; exact Nat.le_refl m), lcGo_len]
    simp
theorem primIn_ok {q : Int} (hq : 2 ≤ q) {m : Nat} (hm : m < 9) {xs : List (List Int)} (h : ∀ x ∈ xs, PrOk q x) : ∀ j, (∀ x ∈ primIn q m j xs, PrOk q x) ∧ (primIn q m j xs).length ≤ xs.length + j
  | 0 => ⟨h, Nat.le_refl _⟩
  | j + 1 => by
    have ih := primIn_ok hq hm h j
    unfold primIn primStep
    split
    · refine ⟨fun x hx => ?_, by rw [List.length_append, List.length_singleton]; omega⟩
      rcases List.mem_append.mp hx with hx | hx
      · exact ih.1 x hx
      · rw [List.mem_singleton.mp hx]; exact lcnt_ok hq hm
    · exact ⟨ih.1, by omega⟩
theorem pow_small {q : Int} {i m : Nat} (hq : q = 2 ∨ q = 3 ∨ q = 5) (hm : m = 1 ∨ m = 2 ∨ (m = 3 ∧ q = 2)) (hi : i < m) : q ^ ((i + 1 : Nat) : Int).toNat = ((q.toNat ^ (i + 1) : Nat) : Int) ∧ q.toNat ^ (i + 1) ≤ 25 := by
  have : i = 0 ∨ i = 1 ∨ i = 2 := (by decide : ∀ i < 3, i = 0 ∨ i = 1 ∨ i = 2) i (Nat.lt_of_lt_of_le hi (m3 hm))
  rcases hq with rfl | rfl | rfl
  · rcases this with rfl | rfl | rfl <;> decide
  · rcases this with rfl | rfl | rfl
    · decide
    · decide
    · rcases hm with rfl | rfl | ⟨_, h⟩
      · exact absurd hi (by decide)
      · exact absurd hi (by decide)
      · exact absurd h (by decide)
  · rcases this with rfl | rfl | rfl
    · decide
    · decide
    · rcases hm with rfl | rfl | ⟨_, h⟩
      · exact absurd hi (by decide)
      · exact absurd hi (by decide)
      · exact absurd h (by decide)
theorem primesL_ok {q : Int} (hq : q = 2 ∨ q = 3 ∨ q = 5) {m : Nat} (hm : m = 1 ∨ m = 2 ∨ (m = 3 ∧ q = 2)) : ∀ i, i ≤ m → (∀ x ∈ primesL q i, PrOk q x) ∧ (primesL q i).length ≤ 25 * i
  | 0, _ => ⟨fun _ h => (List.not_mem_nil h).elim, Nat.zero_le _⟩
  | i + 1, h => by
    have ih := primesL_ok hq hm i (Nat.le_of_succ_le h)
    have h2 := primIn_ok (q := q) (q25 hq).1 (m := i + 1) (Nat.lt_of_le_of_lt (Nat.le_trans h (m3 hm)) (by decide)) ih.1 (q.toNat ^ (i + 1))
    exact ⟨h2.1, Nat.le_trans h2.2 (Nat.add_le_add ih.2 (pow_small hq hm (i := i) h).2)⟩

theorem cntGo_len (q : Int) : ∀ k n, (cntGo q k n).length ≤ k
  | 0, _ => Nat.le_refl _
  | k + 1, n => by
    unfold cntGo
    split
    · exact Nat.zero_le _
    · have := cntGo_len q k ((n : Int) / q).toNat
      rw [List.length_cons]; omega
theorem cntGo_dg {q : Int} (hq : 0 < q) : ∀ k n, Dg q (cntGo q k n)
  | 0, _ => Dg.nil
  | k + 1, n => by
    unfold cntGo
    split
    · exact Dg.nil
    · intro x hx
      rcases List.mem_cons.mp hx with rfl | hx
      · exact Dg.emod hq _
      · exact cntGo_dg hq _ _ x hx
theorem countedL_po {q : Int} (hq : 0 < q) (n : Nat) : Po q (countedL n q) := trimL_po (cntGo_dg hq _ _)
theorem countedL_len (q : Int) (n : Nat) : (countedL n q).length ≤ n := Nat.le_trans (trimL_len _) (cntGo_len q _ _)
end Mine

end
section
open PySem PySem.W PyProof.Rows PySem.Calls PySem.Spec PyProof.Rows.LCg PyProof.Rows.LCt PySem.SeqAt PyProof.V
set_option Elab.async false
set_option maxRecDepth 100000
set_option linter.unusedVariables false
namespace Mine
/-- two lists of ints, the first the lesser -/
noncomputable def lexLt : List Int → List Int → Bool
  | [], [] => false
  | [], _ :: _ => true
  | _ :: _, [] => false
  | x :: r, y :: t => if x = y then lexLt r t else decide (x < y)

section
open AutoSeq1 (wpAny_loadPart')
open MeetsSeq MeetsSeq2 MeetsSeq3
theorem drop_cons {ns : List Int} {i : Nat} (h : i < ns.length) : ns.drop i = ns.getD i 0 :: ns.drop (i + 1) := by
  rw [List.drop_eq_getElem_cons h, List.getD_eq_getElem?_getD, List.getElem?_eq_getElem h]; rfl
theorem lt_loop (l b : Addr) (items items2 : Array Value) (n n2 : Nat) (dd dd2 : Option Addr) (sl sl2 : Array (Option Value)) {ns ms : List Int} (hi : IntsAre items.toList ns) (hj : IntsAre items2.toList ms) (hsz : ns.length = ms.length) (k : Nat) :
    ∀ i : Nat, items.size - i = k → Meets (Builtin.«list.__eq__.loop» ⟨[.ref l, .ref b, rawInt i, rawInt 0], []⟩)
      (fun A R s => s.heap.get? l = some { cls := .type "list", dict := dd, data := .seq items n, slots := sl } ∧ s.heap.get? b = some { cls := .type "list", dict := dd2, data := .seq items2 n2, slots := sl2 } ∧
        R (.ok (.ret (.bool (lexLt (ns.drop i) (ms.drop i))))) s) := by
  have e1 : items.size = ns.length := by have := hi.length; rw [Array.length_toList] at this; exact this
  have e2 : items2.size = ms.length := by have := hj.length; rw [Array.length_toList] at this; exact this
  induction k with
  | zero =>
    intro i hk prog w A R s h
    obtain ⟨hp, g, d, tk, os⟩ := s; obtain ⟨hl, hb, h⟩ := h
    wp_walk using wpAny_loadPart' hl, wpAny_loadPart' hb
    have hi1 : items[((i : Nat) : Int).toNat]? = none := by simp; omega
    have hi2 : items2[((i : Nat) : Int).toNat]? = none := by simp; omega
    have hd : ns.drop i = [] := List.drop_eq_nil_of_le (by omega)
    have hd2 : ms.drop i = [] := List.drop_eq_nil_of_le (by omega)
    rw [hd, hd2] at h
    rw [hi1, hi2]
    wp_walk using wpAny_loadPart' hl, wpAny_loadPart' hb
    have hz : decide (items.size < items2.size) = false := decide_eq_false (by omega)
    show R (.ok (.ret (.bool (decide (items.size < items2.size))))) _
    rw [hz]
    simpa [lexLt] using h
  | succ k ih =>
    intro i hk prog w A R s h
    obtain ⟨hp, g, d, tk, os⟩ := s; obtain ⟨hl, hb, h⟩ := h
    wp_walk using wpAny_loadPart' hl, wpAny_loadPart' hb
    have hlt : i < items.size := by omega
    have hlt2 : i < items2.size := by omega
    obtain ⟨x, t, hx, hx'⟩ := hi.at i items[i] (by simp [hlt])
    obtain ⟨y, u, hy, hy'⟩ := hj.at i items2[i] (by simp [hlt2])
    have hi1 : items[((i : Nat) : Int).toNat]? = some (.int x t) := by simp [hlt, hx]
    have hi2 : items2[((i : Nat) : Int).toNat]? = some (.int y u) := by simp [hlt2, hy]
    have hc : ((i : Int) + 1) = ((i + 1 : Nat) : Int) := by push_cast; rfl
    have hd : ns.drop i = x :: ns.drop (i + 1) := by
      rw [drop_cons (by omega), List.getD_eq_getElem?_getD, hx']; rfl
    have hd2 : ms.drop i = y :: ms.drop (i + 1) := by
      rw [drop_cons (by omega), List.getD_eq_getElem?_getD, hy']; rfl
    rw [hd, hd2] at h
    rw [hi1, hi2]
    refine wpAny_bind (wpAny_eqBool_int ?_)
    cases hb' : x == y with
    | true =>
      have hxy : x = y := by simpa using hb'
      rw [show lexLt (x :: ns.drop (i + 1)) (y :: ms.drop (i + 1)) = lexLt (ns.drop (i + 1)) (ms.drop (i + 1)) by simp [lexLt, hxy]] at h
      wp_walk
      rw [hc]
      exact ⟨plainId_quiet plain_eq_loop _, codeAny_builtin entry_eq_loop (by
        rw [Around.under_plainId plain_eq_loop _]
        exact ih (i + 1) (by omega) prog w A R _ ⟨hl, hb, h⟩)⟩
    | false =>
      have hxy : x ≠ y := by simpa using hb'
      rw [show lexLt (x :: ns.drop (i + 1)) (y :: ms.drop (i + 1)) = decide (x < y) by simp [lexLt, hxy]] at h
      wp_walk using wpAny_loadPart' hl, wpAny_loadPart' hb
      rw [hi1, hi2]
      dsimp only
      exact wpAny_bind (show wpAny _ _ (compareOp .Lt (.int x t) (.int y u)) _ _ _ from PyProof.Rows.lt_int (wpAny_pure h))

theorem lt_meets (l b : Addr) (items items2 : Array Value) (n n2 : Nat) (dd dd2 : Option Addr) (sl sl2 : Array (Option Value)) {ns ms : List Int} (hi : IntsAre items.toList ns) (hj : IntsAre items2.toList ms) (hsz : ns.length = ms.length) :
    Meets (Builtin.«list.__lt__» ⟨[.ref l, .ref b], []⟩)
      (fun A R s => s.heap.get? l = some { cls := .type "list", dict := dd, data := .seq items n, slots := sl } ∧ s.heap.get? b = some { cls := .type "list", dict := dd2, data := .seq items2 n2, slots := sl2 } ∧
        R (.ok (.ret (.bool (lexLt ns ms)))) s) := by
  intro prog w A R s h
  obtain ⟨hp, g, d, tk, os⟩ := s; obtain ⟨hl, hb, h⟩ := h
  have f3 := AutoSeq1.sub_list_list
  wp_walk using wpAny_loadPart' hl, wpAny_loadPart' hb
  exact ⟨plainId_quiet plain_eq_loop _, codeAny_builtin entry_eq_loop (by
    rw [Around.under_plainId plain_eq_loop _]
    exact lt_loop l b items items2 n n2 dd dd2 sl sl2 hi hj hsz _ 0 rfl prog w A R _ ⟨hl, hb, h⟩)⟩
end
section
variable {prog : Program} {w : World} {A : Around} {s : Shared}
theorem lt_LI {E Q : Value → Shared → Prop} {a b : Addr} {ns ms : List Int} (x : LI s.heap a ns) (y : LI s.heap b ms) (hsz : ns.length = ms.length) (hu : A.units < cLine) (h : Q (.bool (lexLt ns ms)) s) :
    wpAny (model prog w) A (compareOp .Lt (.ref a) (.ref b)) Q E s := by
  obtain ⟨vs, hl, hi⟩ := x.list
  obtain ⟨us, hm, hj⟩ := y.list
  obtain ⟨⟨cls, dd, data, sl⟩, ho, hc, n, hd⟩ := id hl
  obtain ⟨⟨cls2, dd2, data2, sl2⟩, ho2, hc2, n2, hd2⟩ := id hm
  simp only at hc hd hc2 hd2
  subst hc hd hc2 hd2
  exact richCompare_meets_room (op := .Lt) ⟨_, ho, rfl⟩ ⟨_, ho2, rfl⟩ F.slot_list_lt F.entry_list_lt (F.args_list_lt_2 _ _) (lt_meets a b vs.toArray us.toArray n n2 dd dd2 sl sl2 hi hj hsz)
    ⟨ho, ho2, show Value.bool (lexLt ns ms) ≠ Value.notImplemented ∧ Q (.bool (lexLt ns ms)) s from ⟨(fun x => nomatch x), h⟩⟩ hu
theorem eqb_LI {E : Value → Shared → Prop} {Q : Bool → Shared → Prop} {a b : Addr} {ns ms : List Int} (x : LI s.heap a ns) (y : LI s.heap b ms) (hu : A.units + 64 < cLine) (h : Q (decide (ns = ms)) s) :
    wpAny (model prog w) A (eqBool (.ref a) (.ref b)) Q E s := by
  obtain ⟨vs, hl, hi⟩ := x.list
  obtain ⟨us, hm, hj⟩ := y.list
  have d1 := PySem.W.depthAll_ints ns
  refine eqBoolOverData prog w A E s _ _ _ _ _ _ Q (reads_of_ints hl hi) (reads_of_ints hm hj) (by simp only [PyData.canLay0]; exact canLayAll0_ints ns) (by simp only [PyData.canLay0]; exact canLayAll0_ints ms) ?_ ?_
  · have : PyData.depth (.list (ns.map PyData.int)) ≤ 64 := by simp only [PyData.depth]; omega
    exact Nat.lt_of_le_of_lt (Nat.add_le_add_left (Nat.le_trans (Nat.min_le_left _ _) this) _) hu
  · simp only [PyData.eqv]
    rw [ked_eqvAll]
    exact h
abbrev tup2 (k : Int) (t : Tok) (R : Addr) : Obj := { cls := .type "tuple", data := .seq #[.int k t, .ref R] }
theorem lexLt_irr : ∀ x : List Int, lexLt x x = false
  | [] => rfl
  | x :: r => by unfold lexLt; rw [if_pos rfl]; exact lexLt_irr r
theorem key_lt {E : Value → Shared → Prop} {Q : Bool → Shared → Prop} {T U R S : Addr} {k : Int} {t u : Tok} {x y : List Int} (h1 : s.heap.get? T = some (tup2 k t R)) (h2 : s.heap.get? U = some (tup2 k u S)) (hx : LI s.heap R x) (hy : LI s.heap S y) (hsz : x.length = y.length) (hu : A.units + 64 < cLine)
    (h : Q (lexLt x y) s) : wpAny (model prog w) A (keyLt' (tuples' true) (.ref T) (.ref U)) Q E s := by
  refine kat_lt (b := true) h1 rfl h2 rfl ?_
  show KatLex prog w A true (decide (2 < 2)) Q [(.int k t, .int k u), (.ref R, .ref S)] 0 s
  refine kat_cons (wpAny_eqBool_int ?_)
  rw [show (k == k) = true by simp]
  refine kat_yes (kat_cons (eqb_LI hx hy hu ?_))
  by_cases e : x = y
  · rw [decide_eq_true e]
    refine kat_yes (kat_nil ?_)
    rw [e, lexLt_irr] at h
    exact h
  · rw [decide_eq_false e]
    refine kat_no (kat_one _ _ (lt_LI hx hy hsz (by omega) h))
end

/-! the sort's tree by known answers -/
noncomputable def kev {α : Type} (lt : Nat → Nat → Bool) : KasT α → α
  | .ret a => a
  | .ask i j k => kev lt (k (lt i j))
noncomputable def kchk {α : Type} (n : Nat) (lt : Nat → Nat → Bool) : KasT α → Bool
  | .ret _ => true
  | .ask i j k => decide (i < n) && decide (j < n) && kchk n lt (k (lt i j))
theorem kas_ev {α : Type} {n : Nat} {lt : Nat → Nat → Bool} {ask : Nat → Nat → (Bool → Shared → Prop) → Shared → Prop} {Q : α → Shared → Prop} {s : Shared} (ha : ∀ i j C, i < n → j < n → C (lt i j) s → ask i j C s) :
    ∀ t : KasT α, kchk n lt t = true → Q (kev lt t) s → t.kasWp ask Q s
  | .ret a, _, h => h
  | .ask i j k, hc, h => by
    simp only [kchk, Bool.and_eq_true, decide_eq_true_eq] at hc
    exact ha i j _ hc.1.1 hc.1.2 (kas_ev ha (k (lt i j)) hc.2 h)
noncomputable def rkLt (r : List Nat) (i j : Nat) : Bool := decide (r.getD i 0 < r.getD j 0)
/-- the places in order -/
noncomputable def ordOf (r : List Nat) : List Nat := if r = [0, 1] then [0, 1] else if r = [1, 0] then [1, 0] else if r = [0, 1, 2] then [0, 1, 2] else if r = [0, 2, 1] then [0, 2, 1] else if r = [1, 0, 2] then [1, 0, 2] else if r = [1, 2, 0] then [2, 0, 1] else if r = [2, 0, 1] then [1, 2, 0] else [2, 1, 0]
theorem sort_ok : ∀ r ∈ [[0, 1], [1, 0], [0, 1, 2], [0, 2, 1], [1, 0, 2], [1, 2, 0], [2, 0, 1], [2, 1, 0]], kchk r.length (rkLt r) (kas_sort r.length) = true ∧ (kev (rkLt r) (kas_sort r.length)).toList = ordOf r := by decide +kernel

theorem lex_anti : ∀ {x y : List Int}, x.length = y.length → x ≠ y → lexLt x y = !lexLt y x
  | [], [], _, h => absurd rfl h
  | [], _ :: _, h, _ => by simp at h
  | _ :: _, [], h, _ => by simp at h
  | x :: r, y :: t, h, hne => by
    unfold lexLt
    by_cases e : x = y
    · subst e
      rw [if_pos rfl, if_pos rfl]
      exact lex_anti (by simpa using h) (fun e => hne (by rw [e]))
    · rw [if_neg e, if_neg (Ne.symm e)]
      by_cases hl : x < y
      · have : ¬ y < x := by omega
        simp [hl, this]
      · have : y < x := by omega
        simp [hl, this]
theorem lex_trans : ∀ {x y z : List Int}, lexLt x y = true → lexLt y z = true → lexLt x z = true
  | [], [], _, h, _ => by simp [lexLt] at h
  | [], _ :: _, [], _, h => by simp [lexLt] at h
  | [], _ :: _, _ :: _, _, _ => rfl
  | _ :: _, [], _, h, _ => by simp [lexLt] at h
  | _ :: _, _ :: _, [], _, h => by simp [lexLt] at h
  | x :: r, y :: t, z :: u, h1, h2 => by
    unfold lexLt at h1 h2 ⊢
    by_cases e1 : x = y
    · subst e1
      rw [if_pos rfl] at h1
      by_cases e2 : x = z
      · subst e2
        rw [if_pos rfl] at h2 ⊢
        exact lex_trans h1 h2
      · rw [if_neg e2] at h2 ⊢
        exact h2
    · rw [if_neg e1] at h1
      have h1' := of_decide_eq_true h1
      by_cases e2 : y = z
      · subst e2
        rw [if_neg e1]
        exact h1
      · rw [if_neg e2] at h2
        have h2' := of_decide_eq_true h2
        rw [if_neg (by omega)]
        exact decide_eq_true (by omega)
/-- sorted by the reversed list -/
noncomputable def Srt (ys : List (List Int)) : Prop := ys.Pairwise fun a b => lexLt a.reverse b.reverse = true
theorem srt_uniq {a b : List (List Int)} (p : a.Perm b) (ha : Srt a) (hb : Srt b) : a = b :=
  List.Perm.eq_of_pairwise (fun _ _ _ _ h1 h2 => absurd (lex_trans h1 h2) (by rw [lexLt_irr]; exact Bool.false_ne_true)) ha hb p

noncomputable def RS : List (List Nat) := [[0, 1], [1, 0], [0, 1, 2], [0, 2, 1], [1, 0, 2], [1, 2, 0], [2, 0, 1], [2, 1, 0]]
theorem ranks2 {a b : List Int} (hl : a.length = b.length) (hne : a ≠ b) : ∃ r ∈ RS, r.length = 2 ∧ (∀ i j, i < 2 → j < 2 → lexLt ([a, b].getD i []) ([a, b].getD j []) = rkLt r i j) ∧ ((ordOf r).map fun i => [a, b].getD i []).Pairwise (fun x y => lexLt x y = true) := by
  have h1 := lex_anti hl hne
  have two : ∀ {P : Nat → Prop}, P 0 → P 1 → ∀ i, i < 2 → P i := fun h0 h1 i hi => by
    match i, hi with
    | 0, _ => exact h0
    | 1, _ => exact h1
  cases hb : lexLt b a with
  | false =>
    rw [hb] at h1
    refine ⟨[0, 1], by simp [RS], rfl, fun i j hi hj => ?_, by simpa [ordOf] using h1⟩
    revert j; revert i
    exact two (two (by simpa [rkLt] using lexLt_irr a) (by simpa [rkLt] using h1)) (two (by simpa [rkLt] using hb) (by simpa [rkLt] using lexLt_irr b))
  | true =>
    rw [hb] at h1
    refine ⟨[1, 0], by simp [RS], rfl, fun i j hi hj => ?_, by simpa [ordOf] using hb⟩
    revert j; revert i
    exact two (two (by simpa [rkLt] using lexLt_irr a) (by simpa [rkLt] using h1)) (two (by simpa [rkLt] using hb) (by simpa [rkLt] using lexLt_irr b))
theorem ranks3 {a b c : List Int} (hl : a.length = b.length) (hl2 : b.length = c.length) (h1 : a ≠ b) (h2 : b ≠ c) (h3 : a ≠ c) : ∃ r ∈ RS, r.length = 3 ∧ (∀ i j, i < 3 → j < 3 → lexLt ([a, b, c].getD i []) ([a, b, c].getD j []) = rkLt r i j) ∧ ((ordOf r).map fun i => [a, b, c].getD i []).Pairwise (fun x y => lexLt x y = true) := by
  have three : ∀ {P : Nat → Prop}, P 0 → P 1 → P 2 → ∀ i, i < 3 → P i := fun h0 h1 h2 i hi => by
    match i, hi with
    | 0, _ => exact h0
    | 1, _ => exact h1
    | 2, _ => exact h2
  have fin : ∀ r : List Nat, r ∈ RS → r.length = 3 → lexLt a b = rkLt r 0 1 → lexLt b a = rkLt r 1 0 → lexLt b c = rkLt r 1 2 → lexLt c b = rkLt r 2 1 → lexLt a c = rkLt r 0 2 → lexLt c a = rkLt r 2 0 → ((ordOf r).map fun i => [a, b, c].getD i []).Pairwise (fun x y => lexLt x y = true) →
      ∃ r ∈ RS, r.length = 3 ∧ (∀ i j, i < 3 → j < 3 → lexLt ([a, b, c].getD i []) ([a, b, c].getD j []) = rkLt r i j) ∧ ((ordOf r).map fun i => [a, b, c].getD i []).Pairwise (fun x y => lexLt x y = true) := by
    intro r hr hl e1 e2 e3 e4 e5 e6 hp
    refine ⟨r, hr, hl, fun i j hi hj => ?_, hp⟩
    revert j; revert i
    have irr : ∀ x : List Int, ∀ i, lexLt x x = rkLt r i i := fun x i => by rw [lexLt_irr]; simp [rkLt]
    exact three (three (irr a 0) e1 e5) (three e2 (irr b 1) e3) (three e6 e4 (irr c 2))
  have g1 := lex_anti hl h1
  have g2 := lex_anti hl2 h2
  have g3 := lex_anti (hl.trans hl2) h3
  cases q1 : lexLt b a <;> cases q2 : lexLt c b <;> cases q3 : lexLt c a <;> rw [q1] at g1 <;> rw [q2] at g2 <;> rw [q3] at g3 <;> simp only [Bool.not_false, Bool.not_true] at g1 g2 g3
  · exact fin [0, 1, 2] (by simp [RS]) rfl (by simpa [rkLt] using g1) (by simpa [rkLt] using q1) (by simpa [rkLt] using g2) (by simpa [rkLt] using q2) (by simpa [rkLt] using g3) (by simpa [rkLt] using q3) (by simp [ordOf, g1, g2, g3])
  · have := lex_trans g1 g2; rw [g3] at this; cases this
  · exact fin [0, 2, 1] (by simp [RS]) rfl (by simpa [rkLt] using g1) (by simpa [rkLt] using q1) (by simpa [rkLt] using g2) (by simpa [rkLt] using q2) (by simpa [rkLt] using g3) (by simpa [rkLt] using q3) (by simp [ordOf, g1, q2, g3])
  · exact fin [1, 2, 0] (by simp [RS]) rfl (by simpa [rkLt] using g1) (by simpa [rkLt] using q1) (by simpa [rkLt] using g2) (by simpa [rkLt] using q2) (by simpa [rkLt] using g3) (by simpa [rkLt] using q3) (by simp [ordOf, g1, q2, q3])
  · exact fin [1, 0, 2] (by simp [RS]) rfl (by simpa [rkLt] using g1) (by simpa [rkLt] using q1) (by simpa [rkLt] using g2) (by simpa [rkLt] using q2) (by simpa [rkLt] using g3) (by simpa [rkLt] using q3) (by simp [ordOf, q1, g2, g3])
  · exact fin [2, 0, 1] (by simp [RS]) rfl (by simpa [rkLt] using g1) (by simpa [rkLt] using q1) (by simpa [rkLt] using g2) (by simpa [rkLt] using q2) (by simpa [rkLt] using g3) (by simpa [rkLt] using q3) (by simp [ordOf, q1, g2, q3])
  · have := lex_trans q2 q1; rw [q3] at this; cases this
  · exact fin [2, 1, 0] (by simp [RS]) rfl (by simpa [rkLt] using g1) (by simpa [rkLt] using q1) (by simpa [rkLt] using g2) (by simpa [rkLt] using q2) (by simpa [rkLt] using g3) (by simpa [rkLt] using q3) (by simp [ordOf, q1, q2, q3])
theorem ord_perm : ∀ r ∈ RS, (ordOf r).Perm (List.range r.length) := by
  intro r hr
  simp only [RS, List.mem_cons, List.not_mem_nil, or_false] at hr
  rcases hr with rfl | rfl | rfl | rfl | rfl | rfl | rfl | rfl <;> decide

/-- a key, made -/
noncomputable def KeyMade (nk : List (Addr × Obj)) (k : Int) (T : Addr) (y : List Int) : Prop := ∃ t R, (T, tup2 k t R) ∈ nk ∧ LD nk R y
theorem KeyMade.mono {nk nk' : List (Addr × Obj)} {k : Int} {T : Addr} {y : List Int} (h : KeyMade nk k T y) (hs : ∀ p ∈ nk, p ∈ nk') : KeyMade nk' k T y := let ⟨t, R, a, b⟩ := h; ⟨t, R, hs _ a, b.mono hs⟩
section
variable {w : World} {A : Around} {s : Shared} {h₀ : Heap} {L : Addr} {m : Str → Option Value} {news : List (Addr × Obj)}
/-- the call of a key function -/
noncomputable def KeyFn (w : World) (A : Around) (s : Shared) (h₀ : Heap) (L : Addr) (m : Str → Option Value) (news : List (Addr × Obj)) (f : Value) (k : Nat) : Prop :=
  ∀ (h : Heap) (tk : Nat) (a : Addr) (x : List Int) (Q' E' : Value → Shared → Prop), Fr h₀ L h m → News h₀ L h news → LI h a x → x.length = k →
    (∀ h' tk' T t R, Kp h h' → h'.get? T = some (tup2 k t R) → h.get? T = none → LI h' R x.reverse → h.get? R = none → Q' (.ref T) { s with heap := h', toks := tk' }) →
    wpAny (model PG w) A (call f [.ref a]) Q' E' { s with heap := h, toks := tk }
theorem updHead {a : Addr} {o : Obj} {rest : List (Addr × Obj)} (h : ∀ p ∈ rest, p.1 ≠ a) : UpdF a o ((a, o) :: rest) (fun o' => (a, o') :: rest) := UpdF.head h
theorem updSecond {a b : Addr} {o ob : Obj} {rest : List (Addr × Obj)} (hn : b ≠ a) (h : ∀ p ∈ rest, p.1 ≠ a) : UpdF a o ((b, ob) :: (a, o) :: rest) (fun o' => (b, ob) :: (a, o') :: rest) := UpdF.tail hn (UpdF.head h)

theorem keys_go {f : Value} {k : Nat} {kS D : Addr} {e1 : Nat} {Fin : List Value → Nat → Shared → Prop} (hk : KeyFn w A s h₀ L m news f k) (hne : kS ≠ D) (hnk : ∀ p ∈ news, p.1 ≠ kS) (hnD : ∀ p ∈ news, p.1 ≠ D) {all : List (List Int)}
    (fin : ∀ Ts nk e h tk, All2 (KeyMade nk k) Ts (all.map List.reverse) → Fr h₀ L h m → News h₀ L h ((kS, seqObj "list" (refs Ts).toArray e) :: (D, seqObj "list" #[] e1) :: (nk ++ news)) → (∀ p ∈ nk, p.1 ≠ kS) → (∀ p ∈ nk, p.1 ≠ D) → Fin (refs Ts) e { s with heap := h, toks := tk }) :
    ∀ (rs : List Addr) (xs done : List (List Int)) (Ts : List Addr) (nk : List (Addr × Obj)) (e : Nat) (h : Heap) (tk : Nat), all = done ++ xs → (∀ x ∈ xs, x.length = k) → All2 (LX h₀ news) rs xs → All2 (KeyMade nk k) Ts (done.map List.reverse) → Fr h₀ L h m →
      News h₀ L h ((kS, seqObj "list" (refs Ts).toArray e) :: (D, seqObj "list" #[] e1) :: (nk ++ news)) → (∀ p ∈ nk, p.1 ≠ kS) → (∀ p ∈ nk, p.1 ≠ D) →
      KatKeys PG w A h₀ L m kS f Fin (refs rs) (refs Ts) e { s with heap := h, toks := tk }
  | [], [], done, Ts, nk, e, h, tk, ha, _, _, hT, F, N, o1, o2 => by
    rw [List.append_nil] at ha
    subst ha
    exact KatKeys.nil (fin Ts nk e h tk hT F N o1 o2)
  | [], _ :: _, _, _, _, _, _, _, _, _, hx, _, _, _, _, _ => hx.elim
  | _ :: _, [], _, _, _, _, _, _, _, _, hx, _, _, _, _, _ => hx.elim
  | a :: rs, x :: xs, done, Ts, nk, e, h, tk, ha, hl, hx, hT, F, N, o1, o2 => by
    refine KatKeys.cons ?_
    have Nn : News h₀ L h news := fun p hp => N p (.tail _ (.tail _ (List.mem_append_right _ hp)))
    refine hk h tk a x _ _ F Nn (hx.1.li F Nn fun p hp => hp) (hl x (.head _)) fun h' tk' T t R kp hT' fT hR fR => ?_
    obtain ⟨vR, nR, hR1, hR2⟩ := hR
    have F' := Fr.after F kp
    have N' : News h₀ L h' ((kS, seqObj "list" (refs Ts).toArray e) :: (D, seqObj "list" #[] e1) :: (((T, tup2 k t R) :: (R, listOf vR.toArray nR) :: nk) ++ news)) := by
      have n1 := news_add F N kp hT' fT
      have n2 := news_add F N kp hR1 fR
      intro p hp
      rcases List.mem_cons.mp hp with rfl | hp
      · exact n1 _ (.tail _ (.head _))
      · rcases List.mem_cons.mp hp with rfl | hp
        · exact n1 _ (.tail _ (.tail _ (.head _)))
        · rcases List.mem_append.mp hp with hp | hp
          · rcases List.mem_cons.mp hp with rfl | hp
            · exact n1 _ (.head _)
            · rcases List.mem_cons.mp hp with rfl | hp
              · exact n2 _ (.head _)
              · exact n1 _ (.tail _ (.tail _ (.tail _ (List.mem_append_left _ hp))))
          · exact n1 _ (.tail _ (.tail _ (.tail _ (List.mem_append_right _ hp))))
    have eT := off_new N fT
    have eR := off_new N fR
    have o1' : ∀ p ∈ (T, tup2 k t R) :: (R, listOf vR.toArray nR) :: nk, p.1 ≠ kS := fun p hp => by
      rcases List.mem_cons.mp hp with rfl | hp
      · exact (eT _ (.head _)).symm
      · rcases List.mem_cons.mp hp with rfl | hp
        · exact (eR _ (.head _)).symm
        · exact o1 p hp
    have o2' : ∀ p ∈ (T, tup2 k t R) :: (R, listOf vR.toArray nR) :: nk, p.1 ≠ D := fun p hp => by
      rcases List.mem_cons.mp hp with rfl | hp
      · exact (eT _ (.tail _ (.head _))).symm
      · rcases List.mem_cons.mp hp with rfl | hp
        · exact (eR _ (.tail _ (.head _))).symm
        · exact o2 p hp
    refine KatBack.intro F' N' (updHead fun p hp => ?_) fun h2 c F2 N2 => ?_
    · rcases List.mem_cons.mp hp with rfl | hp
      · exact fun e => hne e.symm
      · rcases List.mem_append.mp hp with hp | hp
        · exact o1' p hp
        · exact hnk p hp
    · rw [show refs Ts ++ [Value.ref T] = refs (Ts ++ [T]) by simp] at N2 ⊢
      refine keys_go hk hne hnk hnD fin rs xs (done ++ [x]) (Ts ++ [T]) _ c h2 tk' (by rw [ha]; simp) (fun y hy => hl y (.tail _ hy)) hx.2 ?_ F2 N2 o1' o2'
      rw [List.map_append]
      exact (hT.mono fun _ _ q => q.mono fun p hp => .tail _ (.tail _ hp)).snoc ⟨t, R, .head _, .mk (.tail _ (.head _)) hR2⟩
end

theorem getD_map_rev (xs : List (List Int)) (i : Nat) : (xs.map List.reverse).getD i [] = (xs.getD i []).reverse := by
  rw [List.getD_eq_getElem?_getD, List.getElem?_map, List.getD_eq_getElem?_getD]
  cases xs[i]? <;> rfl
theorem ranks {xs : List (List Int)} {k : Nat} (h : xs.length = 2 ∨ xs.length = 3) (hl : ∀ x ∈ xs, x.length = k) (hn : xs.Nodup) :
    ∃ r ∈ RS, r.length = xs.length ∧ (∀ i j, i < xs.length → j < xs.length → lexLt (xs.getD i []).reverse (xs.getD j []).reverse = rkLt r i j) ∧ Srt ((ordOf r).map fun i => xs.getD i []) := by
  have key : ∃ r ∈ RS, r.length = xs.length ∧ (∀ i j, i < xs.length → j < xs.length → lexLt ((xs.map List.reverse).getD i []) ((xs.map List.reverse).getD j []) = rkLt r i j) ∧ ((ordOf r).map fun i => (xs.map List.reverse).getD i []).Pairwise (fun x y => lexLt x y = true) := by
    have rinj : ∀ {x y : List Int}, x ≠ y → x.reverse ≠ y.reverse := fun hne e => hne (List.reverse_inj.mp e)
    match xs, h, hl, hn with
    | [a, b], _, hl, hn =>
      have e : a.length = b.length := (hl a (by simp)).trans (hl b (by simp)).symm
      have hne : a ≠ b := by simp at hn; exact hn
      exact ranks2 (a := a.reverse) (b := b.reverse) (by simpa using e) (rinj hne)
    | [a, b, c], _, hl, hn =>
      have e : a.length = b.length := (hl a (by simp)).trans (hl b (by simp)).symm
      have e2 : b.length = c.length := (hl b (by simp)).trans (hl c (by simp)).symm
      simp at hn
      exact ranks3 (a := a.reverse) (b := b.reverse) (c := c.reverse) (by simpa using e) (by simpa using e2) (rinj hn.1.1) (rinj hn.2) (rinj hn.1.2)
    | [], h, _, _ => simp at h
    | [_], h, _, _ => simp at h
    | _ :: _ :: _ :: _ :: _, h, _, _ => simp at h
  obtain ⟨r, hr, hl', hlt, hp⟩ := key
  refine ⟨r, hr, hl', fun i j hi hj => ?_, ?_⟩
  · have := hlt i j hi hj
    rw [getD_map_rev, getD_map_rev] at this
    exact this
  · unfold Srt
    rw [List.pairwise_map] at hp ⊢
    refine hp.imp fun {i j} q => ?_
    rw [getD_map_rev, getD_map_rev] at q
    exact q
theorem All2.idx {α β : Type} {P : α → β → Prop} {da : α} {db : β} {r : List α} {t : List β} (h : All2 P r t) : ∀ ix : List Nat, (∀ i ∈ ix, i < r.length) → All2 P (ix.map fun i => r.getD i da) (ix.map fun i => t.getD i db)
  | [], _ => trivial
  | i :: ix, hi => by
    have h1 := hi i (.head _)
    refine ⟨?_, All2.idx h ix fun j hj => hi j (.tail _ hj)⟩
    obtain ⟨x, hx, hp⟩ := h.at (List.getElem?_eq_getElem h1)
    show P (r.getD i da) (t.getD i db)
    rw [List.getD_eq_getElem?_getD, List.getElem?_eq_getElem h1, List.getD_eq_getElem?_getD, hx]
    exact hp
theorem map_range_getD (xs : List (List Int)) : ((List.range xs.length).map fun i => xs.getD i []) = xs := by
  refine List.ext_getElem (by simp) fun i h1 h2 => ?_
  simp [List.getD_eq_getElem?_getD, List.getElem?_eq_getElem h2]
theorem kat_tups_of {h₀ h : Heap} {L : Addr} {nk news : List (Addr × Obj)} {k : Nat} (N : News h₀ L h news) (hs : ∀ p ∈ nk, p ∈ news) : ∀ {Ts : List Addr} {ys : List (List Int)}, All2 (KeyMade nk k) Ts ys → ∃ fs, KatTups h (refs Ts) fs ∧ (∀ v ∈ fs, ∃ t, v = .int k t) ∧ fs.length = Ts.length
  | [], [], _ => ⟨[], KatTups.nil, fun _ h => (List.not_mem_nil h).elim, rfl⟩
  | [], _ :: _, x => x.elim
  | _ :: _, [], x => x.elim
  | T :: Ts, y :: ys, x => by
    obtain ⟨fs, h1, h2, h3⟩ := kat_tups_of N hs x.2
    obtain ⟨t, R, ht, hR⟩ := x.1
    refine ⟨.int k t :: fs, KatTups.cons (N _ (hs _ ht)).1 rfl rfl rfl h1, fun v hv => ?_, by simp [h3]⟩
    rcases List.mem_cons.mp hv with rfl | hv
    · exact ⟨t, rfl⟩
    · exact h2 v hv
section
variable {w : World} {A : Around} {s : Shared} {h₀ : Heap} {L : Addr} {m : Str → Option Value} {news : List (Addr × Obj)}
theorem m_sortN {P : Addr → List Int → Prop} (hP : ∀ a x, P a x → LX h₀ news a x) {l fa : Addr} {rs : List Addr} {n k : Nat} {xs : List (List Int)} {E Q : Value → Shared → Prop} (F : Fr h₀ L s.heap m) (N : News h₀ L s.heap news) (hl : s.heap.IsList l (refs rs).toArray) (hx : All2 P rs xs) (hk : ∀ x ∈ xs, x.length = k) (hn : xs.Nodup)
    (hlen : xs.length = 2 ∨ xs.length = 3) (hu : A.units + 66 < cLine) (hf : KeyFn w A.in1.in1 s h₀ L m news (.ref fa) k)
    (h : ∀ D h' tk c rs' ys, Fr h₀ L h' m → News h₀ L h' ((D, listOf (refs rs').toArray c) :: news) → (∀ q ∈ news, q.1 < D) → All2 P rs' ys → ys.Perm xs → Srt ys → (∀ a ∈ rs', a ∈ rs) → Q (.ref D) { s with heap := h', toks := tk }) :
    wpAny (model PG w) A (call (.builtin "sorted") [.ref l] [(Str.ofString "key", .ref fa)]) Q E s := by
  have hrl := hx.len
  have hvl : (refs rs).length = xs.length := by simp [hrl]
  obtain ⟨r, hr, hrlen, hrlt, hsrt⟩ := ranks hlen hk hn
  refine kat_sortedK (b := false) (f := .ref fa) F N hl (by rw [hvl]; omega) (by rw [hvl]; omega) (ksk_s1 _ _) (fun x => ksk_l1 _ _) (fun x => ksk_t1 _ _) fun D kS e1 h' F' N' l0 l1 => ?_
  have hne : kS ≠ D := fun e => Nat.lt_irrefl _ (e ▸ l0)
  refine keys_go (D := D) (e1 := e1) (all := xs) hf hne (fun p hp => Nat.ne_of_lt (Nat.lt_trans (l1 p hp) l0)) (fun p hp => Nat.ne_of_lt (l1 p hp)) (fun Ts nk e h2 tk2 hT F2 N2 o1 o2 => ?_) rs xs [] [] [] 0 h' s.toks rfl hk (hx.mono hP) trivial F' N' (fun _ h => (List.not_mem_nil h).elim) (fun _ h => (List.not_mem_nil h).elim)
  have hTl : Ts.length = xs.length := by rw [hT.len, List.length_map]
  obtain ⟨fs, hfs, hfi, hfl⟩ := kat_tups_of (nk := nk) N2 (fun p hp => .tail _ (.tail _ (List.mem_append_left _ hp))) hT
  refine kat_kind (T := .type "int") hfs (by rw [hfl, hTl]; omega) (fun v hv => ?_) rfl ?_
  · obtain ⟨t, rfl⟩ := hfi v hv
    exact Looks.of_pure rfl
  show (kas_sort (refs rs).length).kasWp (kas_ask PG w A.in1.in1 (tuples' true) (refs Ts)) _ _
  rw [hvl]
  have hsk := sort_ok r hr
  rw [hrlen] at hsk
  refine kas_ev (n := xs.length) (lt := rkLt r) (fun i j C hi hj hC => ?_) _ hsk.1 ?_
  · show wpAny (model PG w) A.in1.in1 (keyLt' (tuples' true) ((refs Ts).getD i Value.none) ((refs Ts).getD j Value.none)) C (fun _ _ => False) _
    have hi2 : i < Ts.length := by omega
    have hj2 : j < Ts.length := by omega
    obtain ⟨x, hx1, ti, Ri, hi3, hi4⟩ := hT.at (List.getElem?_eq_getElem hi2)
    obtain ⟨y, hy1, tj, Rj, hj3, hj4⟩ := hT.at (List.getElem?_eq_getElem hj2)
    have gi : (refs Ts).getD i Value.none = .ref Ts[i] := by simp [List.getD_eq_getElem?_getD, hi2]
    have gj : (refs Ts).getD j Value.none = .ref Ts[j] := by simp [List.getD_eq_getElem?_getD, hj2]
    have ex : x = (xs.getD i []).reverse := by
      rw [← getD_map_rev, List.getD_eq_getElem?_getD, hx1]; rfl
    have ey : y = (xs.getD j []).reverse := by
      rw [← getD_map_rev, List.getD_eq_getElem?_getD, hy1]; rfl
    have lx : ∀ i, i < xs.length → (xs.getD i []).length = k := fun i hi => by
      rw [List.getD_eq_getElem?_getD, List.getElem?_eq_getElem hi]; exact hk _ (List.getElem_mem hi)
    have sub : ∀ p ∈ nk, p ∈ (kS, seqObj "list" (refs Ts).toArray e) :: (D, seqObj "list" #[] e1) :: (nk ++ news) := fun p hp => .tail _ (.tail _ (List.mem_append_left _ hp))
    rw [gi, gj]
    refine key_lt (N2 _ (sub _ hi3)).1 (N2 _ (sub _ hj3)).1 (hi4.li N2 sub) (hj4.li N2 sub) ?_ (by show A.units + 1 + 1 + 64 < _; omega) ?_
    · rw [ex, ey, List.length_reverse, List.length_reverse, lx i hi, lx j hj]
    · rw [ex, ey, hrlt i j hi hj]
      exact hC
  · refine KatFin.intro F2 N2 (updHead fun p hp => ?_) fun h3 c3 F3 N3 => KasFin.intro F3 N3 (updSecond hne fun p hp => ?_) fun h4 c4 F4 N4 => ?_
    · rcases List.mem_cons.mp hp with rfl | hp
      · exact fun e => hne e.symm
      · rcases List.mem_append.mp hp with hp | hp
        · exact o1 p hp
        · exact Nat.ne_of_lt (Nat.lt_trans (l1 p hp) l0)
    · rcases List.mem_append.mp hp with hp | hp
      · exact o2 p hp
      · exact Nat.ne_of_lt (l1 p hp)
    · have hop := ord_perm r hr
      rw [hrlen] at hop
      have hoi : ∀ i ∈ ordOf r, i < xs.length := fun i hi => by simpa using hop.mem_iff.mp hi
      have hout : katRev false ((kev (rkLt r) (kas_sort xs.length)).toList.map fun i => (katRev false (refs rs)).getD i Value.none) = refs ((ordOf r).map fun i => rs.getD i 0) := by
        show ((kev (rkLt r) (kas_sort xs.length)).toList.map fun i => (refs rs).getD i Value.none) = _
        rw [hsk.2]
        show _ = List.map Value.ref (List.map _ _)
        rw [List.map_map]
        refine List.map_congr_left fun i hi => ?_
        have hi2 : i < rs.length := by rw [hrl]; exact hoi i hi
        simp [List.getD_eq_getElem?_getD, hi2]
      rw [hout] at N4
      refine h D h4 _ c4 ((ordOf r).map fun i => rs.getD i 0) ((ordOf r).map fun i => xs.getD i []) F4 (fun p hp => N4 p ?_) l1 (hx.idx (da := 0) _ fun i hi => by rw [hrl]; exact hoi i hi) ?_ hsrt ?_
      · rcases List.mem_cons.mp hp with rfl | hp
        · exact .tail _ (.head _)
        · exact .tail _ (.tail _ (List.mem_append_right _ hp))
      · have := hop.map (fun i => xs.getD i [])
        rw [map_range_getD] at this
        exact this
      · intro a ha
        obtain ⟨i, hi, rfl⟩ := List.mem_map.mp ha
        have hi2 : i < rs.length := by rw [hrl]; exact hoi i hi
        rw [List.getD_eq_getElem?_getD, List.getElem?_eq_getElem hi2]
        exact List.getElem_mem hi2

theorem one_end {E : Value → Shared → Prop} {kS a : Addr} {e e1 : Nat} {v k : Value} {P : PySem.Fin → Shared → Prop} (h : KatFin h₀ L m kS a [k] e e1 [v] (fun s' => P (.done (.ret .none)) s') s) :
    wpAny (model PG w) A (ksk_end a false (List.toArray [v]) e1 (.ref kS) (List.toArray [k])) P E s := by
  unfold ksk_end
  try dsimp only
  simp only [Bool.false_eq_true, if_false]
  rw [if_pos (show (List.toArray [v]).size < 2 by simp), if_pos (show (List.toArray [v]).size < 2 by simp)]
  refine wpAny_bind (wpAny_pure ?_)
  rw [StateT.run_pure]
  refine wpAny_bind (wpAny_pure ?_)
  exact kat_tail (b := false) (st := SortSt.mk' general' ((List.toArray [k]).zip (List.toArray [v])) #[] 7 none) (out := [v]) (by show Array.map (fun x => x.2) ((List.toArray [k]).zip (List.toArray [v])) = _; simp) (by simp) (by simp) rfl h
theorem one_rest {E : Value → Shared → Prop} {kS a : Addr} {e1 : Nat} {v f : Value} {P : PySem.Fin → Shared → Prop} (hk : s.heap.get? kS = some (seqObj "list" #[] 0))
    (h : KatKeys PG w A h₀ L m kS f (fun ks e s' => KatFin h₀ L m kS a ks e e1 [v] (fun s'' => P (.done (.ret .none)) s'') s') [v] [] 0 s) :
    wpAny (model PG w) A (ksk_rest a f false (List.toArray [v]) e1 (.ref kS)) P E s := by
  unfold ksk_rest
  refine wpAny_bind (wpAny_rule ?_)
  rw [List.forIn_toArray]
  refine wpAny_bind (wpAny_mono (kat_fold (n := 1) (by decide) (fun x ks e s' C hz hx => ?_) [v] [] 0 s (by simp) hk h) (fun _ s' hd => ?_) fun _ _ x => x)
  · refine wpAny_bind (wpAny_attempt (wpAny_mono hx (fun k s'' hk => ?_) fun _ _ hF => hF.elim))
    obtain ⟨news', g, F', N', U, c⟩ := hk
    obtain ⟨pre, post, e0, hg, x1, x2⟩ := U.split
    rw [e0] at N'
    have nk := N' (kS, seqObj "list" (List.toArray ks) e) (List.mem_append_right _ (.head _))
    have s1 := Heap.SameBut.update s''.heap kS (Obj.mapSeq (·.push k))
    have ea : (List.toArray ks).push k = List.toArray (ks ++ [k]) := by simp
    obtain ⟨c2, hc2⟩ : ∃ c2, (s''.heap.update kS (Obj.mapSeq (·.push k))).get? kS = some (seqObj "list" (List.toArray (ks ++ [k])) c2) := ⟨_, by rw [← ea]; exact get?_update_seq nk.1 (·.push k)⟩
    try dsimp only
    refine wpAny_bind (listUpdate_at nk.1 rfl ?_ (by rw [List.size_toArray, sizeLine_eq]; omega) (Nat.le_trans (Nat.le_of_eq (Array.size_push ..)) (by rw [List.size_toArray, sizeLine_eq]; omega)))
    exact wpAny_pure ⟨rfl, k, c2, hc2, c _ c2 (kas_fr F' s1 nk.2.1 nk.2.2) (by rw [hg]; exact news_set N' x1 x2 s1 hc2)⟩
  · obtain ⟨ks, e, hk', hl, fin⟩ := hd
    obtain ⟨k, rfl⟩ : ∃ k, ks = [k] := by
      match ks, hl with
      | [k], _ => exact ⟨k, rfl⟩
    try dsimp only
    refine wpAny_bind (listItems_at hk' rfl ?_)
    exact one_end fin
theorem one_keyed {E : Value → Shared → Prop} {a fa : Addr} {v : Value} {n : Nat} {P : PySem.Fin → Shared → Prop} (F : Fr h₀ L s.heap m) (N : News h₀ L s.heap news) (ho : s.heap.get? a = some (seqObj "list" (List.toArray [v]) n)) (haL : a ≠ L) (ha0 : h₀.get? a = none) (hna : ∀ p ∈ news, p.1 ≠ a)
    (h : ∀ kS e1 h', Fr h₀ L h' m → News h₀ L h' ((kS, seqObj "list" #[] 0) :: (a, seqObj "list" #[] e1) :: news) → a < kS → (∀ q ∈ news, q.1 < kS) →
      KatKeys PG w A h₀ L m kS (.ref fa) (fun ks e s' => KatFin h₀ L m kS a ks e e1 [v] (fun s4 => P (.done (.ret .none)) s4) s') [v] [] 0 { s with heap := h' }) :
    wpAny (model PG w) A (ksk_tree a (.ref fa) false) P E s := by
  have ha : a < s.heap.objs.size := Heap.lt_size ho
  have s1 := Heap.SameBut.update s.heap a (Obj.mapSeq fun _ => (#[] : Array Value))
  obtain ⟨e1, ho1⟩ : ∃ e1, (s.heap.update a (Obj.mapSeq fun _ => (#[] : Array Value))).get? a = some (seqObj "list" #[] e1) := ⟨_, get?_update_seq ho fun _ => #[]⟩
  have F1 := kas_fr F s1 haL ha0
  have N1 := kas_news N s1 hna
  have hkS : ((s.heap.update a (Obj.mapSeq fun _ => (#[] : Array Value))).push (seqObj "tuple" (List.toArray [v]) 0)).objs.size = s.heap.objs.size + 1 := by rw [size_push', Heap.size_update]
  have hLk : L < ((s.heap.update a (Obj.mapSeq fun _ => (#[] : Array Value))).push (seqObj "tuple" (List.toArray [v]) 0)).objs.size := (F1.push _).ns.lt
  unfold ksk_tree
  refine wpAny_bind (listItems_at ho rfl ?_)
  refine wpAny_bind (listUpdate_at ho rfl ?_ (by simp [sizeLine_eq]) (Nat.zero_le _))
  refine wpAny_bind (seqEpoch_at ho1 rfl ?_)
  refine wpAny_bind (wpAny_newTuple ?_ (by simp [sizeLine_eq]))
  refine wpAny_bind (wpAny_newList ?_ (Nat.zero_le _))
  refine wpAny_holding ?_
  refine one_rest (s := { s with heap := ((s.heap.update a (Obj.mapSeq fun _ => (#[] : Array Value))).push (seqObj "tuple" (List.toArray [v]) 0)).push (seqObj "list" #[] 0) }) (kS := ((s.heap.update a (Obj.mapSeq fun _ => (#[] : Array Value))).push (seqObj "tuple" (List.toArray [v]) 0)).objs.size)
    (Heap.get?_push_size _ rfl) (h _ e1 _ ((F1.push _).push _) (fun p hp => ?_) (by rw [hkS]; exact Nat.lt_succ_of_lt ha) fun q hq => by rw [hkS]; exact Nat.lt_succ_of_lt (Heap.lt_size (N q hq).1))
  rcases List.mem_cons.mp hp with rfl | hp
  · exact ⟨Heap.get?_push_size _ rfl, Nat.ne_of_gt hLk, Heap.get?_none_of_le (Nat.le_trans F.above (Nat.le_of_lt hLk))⟩
  · rcases List.mem_cons.mp hp with rfl | hp
    · exact ⟨Heap.get?_push_of_some _ (Heap.get?_push_of_some _ ho1), haL, ha0⟩
    · exact ⟨Heap.get?_push_of_some _ (Heap.get?_push_of_some _ (N1 p hp).1), (N1 p hp).2⟩
theorem m_sort1 {l fa r : Addr} {k : Nat} {x : List Int} {E Q : Value → Shared → Prop} (F : Fr h₀ L s.heap m) (N : News h₀ L s.heap news) (hl : s.heap.IsList l (List.toArray [.ref r])) (hx : LX h₀ news r x) (hk : x.length = k)
    (hf : KeyFn w A.in1.in1 s h₀ L m news (.ref fa) k)
    (h : ∀ D h' tk c, Fr h₀ L h' m → News h₀ L h' ((D, listOf (refs [r]).toArray c) :: news) → (∀ q ∈ news, q.1 < D) → Q (.ref D) { s with heap := h', toks := tk }) :
    wpAny (model PG w) A (call (.builtin "sorted") [.ref l] [(Str.ofString "key", .ref fa)]) Q E s := by
  refine call_function_entry_kw kind_sorted plain_sorted entry_sorted (ksk_s1 _ _) ?_
  unfold Builtin.«sorted»
  refine wpAny_bind (m := checkCount "sorted" 1 1 _) (wpAny_pure ?_)
  refine wpAny_bind (collect_list hl ?_ (by simp [sizeLine_eq]))
  refine wpAny_bind (wpAny_newList ?_ (by simp [sizeLine_eq]))
  have hsz : ((s.heap.push (seqObj "list" #[] 0)).update s.heap.objs.size (Obj.mapSeq (· ++ List.toArray [Value.ref r]))).objs.size = s.heap.objs.size + 1 := by
    rw [Heap.size_update, size_push']
  have hoL : (((s.heap.push (seqObj "list" #[] 0)).update s.heap.objs.size (Obj.mapSeq (· ++ List.toArray [Value.ref r]))).push (seqObj "list" (List.toArray [Value.ref r]) 0)).get? (s.heap.objs.size + 1) = some (seqObj "list" (List.toArray [Value.ref r]) 0) := by
    rw [← hsz]; exact Heap.get?_push_size _ rfl
  have keep : ∀ b o, s.heap.get? b = some o → (((s.heap.push (seqObj "list" #[] 0)).update s.heap.objs.size (Obj.mapSeq (· ++ List.toArray [Value.ref r]))).push (seqObj "list" (List.toArray [Value.ref r]) 0)).get? b = some o := fun b o q => by
    have hlt : b < s.heap.objs.size := Heap.lt_size q
    rw [Heap.get?_push_ne _ _ _ (by rw [hsz]; exact Nat.ne_of_lt (Nat.lt_succ_of_lt hlt)), Heap.get?_update_ne _ _ _ _ (Nat.ne_of_lt hlt), Heap.get?_push_ne _ _ _ (Nat.ne_of_lt hlt)]
    exact q
  have hL : L < s.heap.objs.size := F.ns.lt
  show wpAny _ _ _ _ _ { s with heap := ((s.heap.push (seqObj "list" #[] 0)).update s.heap.objs.size (Obj.mapSeq (· ++ List.toArray [Value.ref r]))).push (seqObj "list" (List.toArray [Value.ref r]) 0) }
  rw [hsz]
  refine wpAny_bind (wpAny_holding (wpAny_call_entry_kw slot_list_sort ⟨_, hoL, rfl⟩ entry_list_sort ?body (ksk_l1 _ _)))
  case body =>
    show wpAny (model PG w) A.in1.in1 (ksk_tree (s.heap.objs.size + 1) (.ref fa) false) _ _ _
    refine one_keyed (s := { s with heap := ((s.heap.push (seqObj "list" #[] 0)).update s.heap.objs.size (Obj.mapSeq (· ++ List.toArray [Value.ref r]))).push (seqObj "list" (List.toArray [Value.ref r]) 0) })
      (F.kept keep) (N.grown keep) hoL (Nat.ne_of_gt (Nat.lt_succ_of_lt hL)) (Heap.get?_none_of_le (Nat.le_trans F.above (Nat.le_succ_of_le (Nat.le_of_lt hL))))
      (fun p hp => Nat.ne_of_lt (Nat.lt_succ_of_lt (Heap.lt_size (N p hp).1))) fun kS e1 h' F' N' l0 l1 => ?_
    have hne : kS ≠ s.heap.objs.size + 1 := fun e => Nat.lt_irrefl _ (e ▸ l0)
    have hlD : ∀ q ∈ news, q.1 < s.heap.objs.size + 1 := fun q hq => Nat.lt_succ_of_lt (Heap.lt_size (N q hq).1)
    refine keys_go (D := s.heap.objs.size + 1) (e1 := e1) (all := [x]) hf hne (fun p hp => Nat.ne_of_lt (l1 p hp)) (fun p hp => Nat.ne_of_lt (hlD p hp)) (fun Ts nk e h2 tk2 hT F2 N2 o1 o2 => ?_) [r] [x] [] [] [] 0 h' s.toks rfl (fun y hy => by rw [List.mem_singleton.mp hy]; exact hk) ⟨hx, trivial⟩ trivial F' N' (fun _ h => (List.not_mem_nil h).elim) (fun _ h => (List.not_mem_nil h).elim)
    refine KatFin.intro F2 N2 (updHead fun p hp => ?_) fun h3 c3 F3 N3 => KasFin.intro F3 N3 (updSecond hne fun p hp => ?_) fun h4 c4 F4 N4 => ?_
    · rcases List.mem_cons.mp hp with rfl | hp
      · exact fun e => hne e.symm
      · rcases List.mem_append.mp hp with hp | hp
        · exact o1 p hp
        · exact Nat.ne_of_lt (l1 p hp)
    · rcases List.mem_append.mp hp with hp | hp
      · exact o2 p hp
      · exact Nat.ne_of_lt (hlD p hp)
    · refine ⟨_, rfl, wpAny_pure ⟨_, rfl, h _ h4 _ c4 F4 (fun p hp => N4 p ?_) hlD⟩⟩
      rcases List.mem_cons.mp hp with rfl | hp
      · exact .tail _ (.head _)
      · exact .tail _ (.tail _ (List.mem_append_right _ hp))
/-- sorted(a list of lists of ints, key = (len, reversed)) -/
theorem m_sorted {P : Addr → List Int → Prop} (hP : ∀ a x, P a x → LX h₀ news a x) {l fa : Addr} {rs : List Addr} {n k : Nat} {xs : List (List Int)} {E Q : Value → Shared → Prop} (F : Fr h₀ L s.heap m) (N : News h₀ L s.heap news) (hl : s.heap.get? l = some (listOf (refs rs).toArray n)) (hx : All2 P rs xs) (hk : ∀ x ∈ xs, x.length = k) (hn : xs.Nodup)
    (hlen : 1 ≤ xs.length ∧ xs.length ≤ 3) (hu : A.units + 66 < cLine) (hf : KeyFn w A.in1.in1 s h₀ L m news (.ref fa) k)
    (h : ∀ D h' tk c rs' ys, Fr h₀ L h' m → News h₀ L h' ((D, listOf (refs rs').toArray c) :: news) → (∀ q ∈ news, q.1 < D) → All2 P rs' ys → ys.Perm xs → Srt ys → (∀ a ∈ rs', a ∈ rs) → Q (.ref D) { s with heap := h', toks := tk }) :
    wpAny (model PG w) A (call (.builtin "sorted") [.ref l] [(Str.ofString "key", .ref fa)]) Q E s := by
  have hL : s.heap.IsList l (refs rs).toArray := ⟨_, hl, rfl, n, rfl⟩
  by_cases h1 : xs.length = 1
  · match rs, xs, hx, h1 with
    | [r], [x], hx, _ => exact m_sort1 F N hL (hP _ _ hx.1) (hk x (.head _)) hf fun D h' tk c F' N' l1 => h D h' tk c [r] [x] F' N' l1 hx (List.Perm.refl _) (List.pairwise_singleton _ _) fun _ h => h
    | _ :: _ :: _, [x], hx, _ => exact hx.2.elim
    | [], [x], hx, _ => exact hx.elim
  · exact m_sortN (n := n) hP F N hL hx hk hn (by omega) hu hf h
end

theorem Cx.in1 {w : World} {A : Around} {base : Heap} {outer : List Env} {p : Program} {loose : List Str} {mean : ExcName → Option Value} {mg mb : Str → Option Value} {d : Nat} {h : Heap} (C : Cx w A base outer p loose mean mg mb (d + 1) h) : Cx w A.in1 base outer p loose mean mg mb d h where
  B := C.B.in1
  hd := C.hd
  dep := by have := C.dep; show A.depth + d < _; omega
  un := by have := C.un; show A.units + 1 + 8 * d < _; omega
  X := C.X
  T := C.T
/-- what the splitting of the law's products obeys -/
structure EqLaw (q : Int) (m : Nat) (V : List (List Int) → List Int) (G : List (List Int) → Prop) : Prop where
  po : ∀ {S}, G S → Po q (V S) ∧ (V S).length < 50 ∧ 0 < (V S).length
  one : ∀ {S}, G S → (V S).length = m + 1 → S = [V S]
  many : ∀ {S}, G S → (V S).length ≠ m + 1 → ∃ N : Nat, q ≤ (N : Int) ∧ N < 100 ∧ splitOL (V S) m (countedL N q) q ≠ none
  cut : ∀ {S x a}, G S → (V S).length ≠ m + 1 → Po q a → splitOL (V S) m a q = some x → ∃ S1 S2, G S1 ∧ G S2 ∧ (S1 ++ S2).Perm S ∧ x = V S1 ∧ mquoL (V S) x q = V S2
  pos : ∀ {S}, G S → 0 < S.length
section
variable {w : World} {A : Around} {s : Shared} {E Q : Value → Shared → Prop} {g : Heap} {L : Addr}
theorem len_refs {l : Addr} {rs : List Addr} {n : Nat} {news : List (Addr × Obj)} (N : News g L s.heap news) (hm : (l, listOf (refs rs).toArray n) ∈ news) (hn : rs.length < 2000) (h : Q (.int rs.length (s.toks + 1)) { s with toks := s.toks + 1 + 1 }) :
    wpAny (model PG w) A (call (.builtin "len") [.ref l]) Q E s := by
  have e : (refs rs).toArray.size = rs.length := by simp
  exact call_len_list (News.isList N hm) (by rw [e]; omega) (by rw [e]; exact h)
theorem pop_refs {D a : Addr} {rs : List Addr} {n : Nat} {m : Str → Option Value} {news news' : List (Addr × Obj)} (F : Fr g L s.heap m) (N : News g L s.heap news) (U : Upd D (listOf (refs (rs ++ [a])).toArray n) (listOf (refs rs).toArray (n + 1)) news news') (hz : rs.length < 2000)
    (h : ∀ h', Fr g L h' m → News g L h' news' → Q (.ref a) { s with heap := h' }) : wpAny (model PG w) A (call (.builtin "list.pop") [.ref D]) Q E s := by
  refine kl_pop F N (p := refs rs) (y := .ref a) ?_ U (by simp [sizeLine_eq]; omega) h
  have e := kpa_last (.ref a) (refs rs)
  simpa using e
theorem popAt_refs {D : Addr} {i : Nat} {u : Tok} {rs : List Addr} {n : Nat} {m : Str → Option Value} {news news' : List (Addr × Obj)} (F : Fr g L s.heap m) (N : News g L s.heap news) (U : Upd D (listOf (refs rs).toArray n) (listOf (refs (rs.eraseIdx i)).toArray (n + 1)) news news') (hi : i < rs.length) (hz : rs.length < 2000)
    (h : ∀ h', Fr g L h' m → News g L h' news' → Q (.ref (rs.getD i 0)) { s with heap := h' }) : wpAny (model PG w) A (call (.builtin "list.pop") [.ref D, .int (i : Int) u]) Q E s := by
  have hsz : (refs rs).toArray.size = rs.length := by simp
  have cut : ∀ (l : List Addr) (j : Nat), j < l.length → kl_cut (refs l) j = some (refs (l.take j), .ref (l.getD j 0), refs (l.drop (j + 1))) := by
    intro l
    induction l with
    | nil => intro j hj; simp at hj
    | cons x r ih =>
      intro j hj
      cases j with
      | zero => rfl
      | succ j =>
        show (match kl_cut (refs r) j with | some (p, y, q) => some (Value.ref x :: p, y, q) | none => none) = _
        rw [ih j (by simpa using hj)]
        rfl
  have U' : Upd D (listOf (refs rs).toArray n) (listOf (refs (rs.take i) ++ refs (rs.drop (i + 1))).toArray (n + 1)) news news' := by
    rw [← List.map_append, ← List.eraseIdx_eq_take_drop_succ]
    exact U
  refine kl_popAt (its := (refs rs).toArray) F N (k := i) (p := refs (rs.take i)) (q := refs (rs.drop (i + 1))) (y := .ref (rs.getD i 0)) ?_ ?_ ?_ U' ?_ h
  · simp [Builtin.List.listFitsIndex]
    omega
  · rw [hsz]
    simp [seqIndex?]
    omega
  · simpa using cut rs i hi
  · rw [sizeLine_eq]
    simp
    omega
end
theorem LLB.keeps' {h h' : Heap} {l : Addr} {rs : List Addr} {n : Nat} {xs : List (List Int)} (e : h.get? l = some (listOf (refs rs).toArray n)) (x : All2 (LI h) rs xs) (k : Kp h h') : h'.get? l = some (listOf (refs rs).toArray n) ∧ All2 (LI h') rs xs := ⟨k _ _ e, x.mono fun _ _ y => y.keeps k⟩

theorem All2.snoc_inv {α β : Type} {P : α → β → Prop} {x : β} : ∀ {t : List β} {r : List α}, All2 P r (t ++ [x]) → ∃ r' a, r = r' ++ [a] ∧ All2 P r' t ∧ P a x
  | [], [], h => h.elim
  | [], a :: r, h => by
    cases r with
    | nil => exact ⟨[], a, rfl, trivial, h.1⟩
    | cons _ _ => exact h.2.elim
  | y :: t, [], h => h.elim
  | y :: t, a :: r, h => by
    obtain ⟨r', b, rfl, h2, h3⟩ := All2.snoc_inv (t := t) (r := r) h.2
    exact ⟨a :: r', b, rfl, ⟨h.1, h2⟩, h3⟩
theorem flat_len : ∀ {W : List (List (List Int))}, (∀ S ∈ W, 0 < S.length) → W.length ≤ W.flatten.length
  | [], _ => Nat.zero_le _
  | S :: W, h => by
    have h1 := h S (.head _)
    have h2 := flat_len (W := W) fun T hT => h T (.tail _ hT)
    rw [List.flatten_cons, List.length_append, List.length_cons]
    omega
theorem refs_snoc (rs : List Addr) (a : Addr) : refs rs ++ [Value.ref a] = refs (rs ++ [a]) := by simp
theorem perm_one {W : List (List (List Int))} {S fs due : List (List Int)} {x : List Int} (h : ((W ++ [S]).flatten ++ fs).Perm due) (e : S = [x]) : (W.flatten ++ (fs ++ [x])).Perm due := by
  subst e
  refine List.Perm.trans ?_ h
  rw [List.flatten_append, List.append_assoc]
  refine List.Perm.append_left _ ?_
  simpa using (List.perm_append_comm (l₁ := fs) (l₂ := [x]))
theorem perm_two {W : List (List (List Int))} {S S1 S2 fs due : List (List Int)} (h : ((W ++ [S]).flatten ++ fs).Perm due) (e : (S1 ++ S2).Perm S) : ((W ++ [S1] ++ [S2]).flatten ++ fs).Perm due := by
  refine List.Perm.trans ?_ h
  refine List.Perm.append_right _ ?_
  simp only [List.flatten_append, List.flatten_cons, List.flatten_nil, List.append_nil, List.append_assoc]
  exact List.Perm.append_left _ e

section
variable {prog : Program} {w : World} {A : Around} {E : Value → Shared → Prop} {Q : Flow → Shared → Prop} {s : Shared} {env : Env} {g : Heap} {σ : Type} {x : Str} {body : List Stmt}
/-- a for over a list of the ledger; the turns change no list -/
theorem m_listF {l : Addr} {its : Array Value} {nl : Nat} {m₀ : Str → Option Value} {fixed : List (Addr × Obj)} (ps : σ → List (Str × Value)) (I : Nat → σ → Prop) (c₀ : σ)
    (hh : A.handled = none) (hm : (l, listOf its nl) ∈ fixed) (F : Fr g env.locals s.heap m₀) (N : News g env.locals s.heap fixed) (hb : Binds m₀ (ps c₀)) (hI : Hold (I 0 c₀))
    (turn : ∀ (c : σ) (i : Nat) v (u : Str → Option Value) h tk own, its[i]? = some v → I i c →
      Fr g env.locals h (fun y => if y = x then some v else kstB u (ps c) y) → News g env.locals h (fixed ++ own) →
      wpAny (model prog w) A (execs body env) (HPost g env.locals { s with heap := h, toks := tk } (fun _ => []) ps (I (i + 1)) (fixed ++ own) Q) E { s with heap := h, toks := tk })
    (done : ∀ (c : σ) (u : Str → Option Value) h tk, I its.size c → Fr g env.locals h (kstB u (ps c)) → News g env.locals h fixed → Q .next { s with heap := h, toks := tk }) :
    wpAny (model prog w) A (pyIter (.ref l)) (fun it s₂ => LoopAtV prog w A g env x body Q E it s₂) E s := by
  have hls : s.heap.IsList l its := News.isList N hm
  have hlt : l < s.heap.objs.size := Heap.lt_size (N _ hm).1
  have hne : l ≠ s.heap.objs.size := Nat.ne_of_lt hlt
  refine wpAny_pyIter_list hls ?_
  have W := Walks.list (prog := prog) (w := w) hh s.heap.objs.size l hne its
  refine ⟨_, _, _, its.size, _, _, m₀, fixed, (fun i m nx => ∃ c, nx = ([] : List (Addr × Obj)) ++ fixed ∧ PObjs ([] : List (Addr × Obj)) ∧ Binds m (ps c) ∧ I i c), rfl, W, ?_, ?_, ?_, ⟨⟨_, Heap.get?_push_size _ rfl, rfl, rfl⟩, hls.at fun o e => Heap.get?_push_of_some _ e⟩, F.push _, (fun p hp => ⟨Heap.get?_push_of_some _ (N p hp).1, (N p hp).2⟩), ⟨c₀, rfl, .nil, hb, hI⟩, ?_, ?_⟩
  · intro hm'
    rcases List.mem_cons.mp hm' with e | hm'
    · exact absurd F.ns.lt (e ▸ Nat.lt_irrefl _)
    · exact (N _ hm).2.1 (List.mem_singleton.mp hm').symm
  · intro b hb
    rw [List.mem_singleton.mp hb]
    exact next_is_new F
  · intro p hp hI
    exact absurd (Heap.lt_size (N p hp).1) ((List.mem_singleton.mp hI) ▸ Nat.lt_irrefl _)
  · rintro i v m₁ nx s₁ own ⟨hh', tk', rfl⟩ hin hv ⟨c, hnx, _, hb', hI'⟩ hoff hown hal hcomp hst F₁ N₁
    rw [hnx] at hoff N₁
    have N₂ : News g env.locals hh' (fixed ++ own) := fun p hp => N₁ p ((List.mem_append.mp hp).elim (fun h => List.mem_append.mpr (.inr h)) fun h => List.mem_append.mpr (.inl h))
    refine wpAny_mono (turn c i v m₁ hh' tk' own hv hI' (fr_same hb' F₁) N₂) (fun f s₂ p => hpost (fun b hb => ?_) (fun p hp => hoff p hp) p) fun _ _ e => e
    rw [List.mem_singleton.mp hb]
    obtain ⟨⟨o, ho, _, hd⟩, _⟩ := hst
    exact ⟨o, _, hcomp _ (.head _) (next_is_new F) _ ho, hd⟩
  · rintro h' tk m' news' F' N' _ ⟨c, hnx, _, hb', hI'⟩
    rw [hnx] at N'
    exact done c m' h' tk hI' (by rw [hb'.same]; exact F') N'
end

theorem fmod_bd {p : Int} (hp : 0 < p) (x : Int) : 0 ≤ x.fmod p ∧ x.fmod p < p := by
  rw [Int.fmod_eq_emod_of_nonneg _ (by omega)]
  exact Dg.emod hp x

section
variable {w : World} {A : Around} {base : Heap} {outer : List Env} {p : Program} {loose : List Str} {mean : ExcName → Option Value} {mg mb : Str → Option Value} {d : Nat} {s : Shared}
  {name qual : Str} {params : Arguments} {body : List Stmt} {scope : Scope} {dV kV doc pm cdv ct oc : Value} {an od : Option Addr} {osl : Array (Option Value)} {f : Addr} {args : List Value} {binds : List (Str × Value)}
  {Q : Value → Shared → Prop} {E : Value → Shared → Prop} {g : Heap} {L : Addr} {m : Str → Option Value} {led : List (Addr × Obj)}
/-- a def of the text is entered with its caller's ledger -/
theorem enterN (C : Cx w A base outer p loose mean mg mb (d + 1) s.heap) (X0 : (Mine.hd.heap_39 w.params).In g) (T0 : Top p loose mean mg mb g) (F0 : Fr g L s.heap m) (N0 : News g L s.heap led)
    (ho : (Mine.hd.heap_39 w.params).lookup f = some ⟨oc, od, .func (fnOf name qual params body scope dV kV doc pm an cdv ct), osl⟩) (hcd : codeIn (Mine.hd.heap_39 w.params) cdv qual = true)
    (hbind : BindsTo s (fnOf name qual params body scope dV kV doc pm an cdv ct) ⟨args, []⟩ binds) (hloc : ∀ y ∈ binds, scope.names.lookup y.1 = some .local)
    (h : ∀ (L' : Addr) (h₁ : Heap) (oL : Obj), Fr g L' h₁ (fun y => binds.reverse.lookup y) → News g L' h₁ ((L, oL) :: led) → (∀ h2, h2.get? L = some oL → (∀ b o, g.get? b = some o → h2.get? b = some o) → Fr g L h2 m) →
      wpAny (model PG w) (A.deeper (envOf qual scope L' f cdv)) (execs body (envOf qual scope L' f cdv))
        (fun fl s' => Q (match fl with | .ret v => v | _ => .none) s')
        (fun _ _ => False)
        { s with heap := h₁, toks := s.toks + binds.length })
    (hco : scope.isCoroutine = false) (hgen : scope.isGenerator = false) (hk : scope.kind = .function)
    (hcell : ∀ x ∈ scope.names, x.2 ≠ .cell) : wpAny (model PG w) A (call (.ref f) args) Q E s := by
  refine wpAny_call (codeAny_call_def (fd := fnOf name qual params body scope dV kV doc pm an cdv ct) (body := body) (binds := binds) (Nat.lt_of_le_of_lt (Nat.le_add_right _ _) C.dep) (C.X _ _ ho) rfl C.T.nolimit (codeRec_of C.X hcd) rfl hbind hcell hloc (fun h₁ hns hk₁ => ?_) hco hgen hk)
  obtain ⟨oL, es, ep, hL, hd, hr⟩ := F0.ns
  have hLlt : L < s.heap.objs.size := Heap.lt_size hL
  refine wpAny_mono (h s.heap.objs.size h₁ oL ⟨hns, fun b o e => hk₁ b o (F0.keep b o e), Nat.le_trans F0.above (Nat.le_of_lt hLlt)⟩ (fun q hq => ?_) (fun h2 e hk2 => ⟨⟨oL, es, ep, e, hd, hr⟩, hk2, F0.above⟩)) (fun _ _ x => x) (fun _ _ x => x.elim)
  rcases List.mem_cons.mp hq with rfl | hq
  · exact ⟨hk₁ _ _ hL, Nat.ne_of_lt hLlt, Heap.get?_none_of_le F0.above⟩
  · exact ⟨hk₁ _ _ (N0 q hq).1, Nat.ne_of_lt (Heap.lt_size (N0 q hq).1), (N0 q hq).2.2⟩
end

section
variable {w : World} {A : Around} {s : Shared} {E Q : Value → Shared → Prop} {g : Heap} {L : Addr}
theorem ne_LInil_f {a b : Addr} {n k : Nat} {news : List (Addr × Obj)} (N : News g L s.heap news) (ha : (a, listOf (List.toArray []) n) ∈ news) (hb : (b, listOf #[] k) ∈ news) (hu : A.units + 64 < cLine)
    (h : Q (.bool false) s) : wpAny (model PG w) A (compareOp .NotEq (.ref a) (.ref b)) Q E s :=
  ne_LI (LI.news (vs := []) (ns := []) N ha .nil) (LI.news (vs := []) (ns := []) N hb .nil) hu h
theorem ne_LInil_t {a b : Addr} {x : Int} {t : Tok} {vs : List Value} {ns : List Int} {n k : Nat} {news : List (Addr × Obj)} (N : News g L s.heap news) (ha : (a, listOf (List.toArray (.int x t :: vs)) n) ∈ news) (hi : IntsAre vs ns) (hb : (b, listOf #[] k) ∈ news) (hu : A.units + 64 < cLine)
    (h : Q (.bool true) s) : wpAny (model PG w) A (compareOp .NotEq (.ref a) (.ref b)) Q E s := by
  refine ne_LI (LI.news (ns := x :: ns) N ha (.cons _ _ hi)) (LI.news (vs := []) (ns := []) N hb .nil) hu ?_
  rw [show (!decide (x :: ns = [])) = true by simp]
  exact h
theorem pop0 {D : Addr} {v : Value} {vs : List Value} {n : Nat} {u : Tok} {m : Str → Option Value} {news news' : List (Addr × Obj)} (F : Fr g L s.heap m) (N : News g L s.heap news) (U : Upd D (listOf (List.toArray (v :: vs)) n) (listOf (List.toArray vs) (n + 1)) news news') (hz : vs.length < 1000)
    (h : ∀ h', Fr g L h' m → News g L h' news' → Q v { s with heap := h' }) : wpAny (model PG w) A (call (.builtin "list.pop") [.ref D, .int 0 u]) Q E s := by
  refine kl_popAt (its := List.toArray (v :: vs)) F N (k := 0) (p := []) (q := vs) (y := v) rfl ?_ rfl U ?_ h
  · simp [seqIndex?]
  · rw [sizeLine_eq]
    simp
    omega
end

theorem news_back {g h h' : Heap} {L L' dr r : Addr} {o1 o2 o1' o2' : Obj} {led news' : List (Addr × Obj)} (N0 : News g L h ((dr, o1) :: (r, o2) :: led)) (N' : News g L' h' news') (h1 : (dr, o1') ∈ news') (h2 : (r, o2') ∈ news') (h3 : ∀ p ∈ led, p ∈ news') : News g L h' ((dr, o1') :: (r, o2') :: led) := fun p hp => by
  rcases List.mem_cons.mp hp with rfl | hp
  · exact ⟨(N' _ h1).1, (N0 _ (.head _)).2⟩
  · rcases List.mem_cons.mp hp with rfl | hp
    · exact ⟨(N' _ h2).1, (N0 _ (.tail _ (.head _))).2⟩
    · exact ⟨(N' _ (h3 p hp)).1, (N0 _ (.tail _ (.tail _ hp))).2⟩

theorem news_addP {h₀ h h' : Heap} {L r a : Addr} {m : Str → Option Value} {o oa : Obj} {news : List (Addr × Obj)} (F : Fr h₀ L h m) (N : News h₀ L h news) (k : Kp h h') (hr : h'.get? r = some o) (hf : h.get? r = none)
    (ha : h'.get? a = some oa) (fa : h.get? a = none) : News h₀ L h' ((r, o) :: (a, oa) :: news) := by
  have x := news_add F N k hr hf
  have y := news_add F N k ha fa
  intro p hp
  rcases List.mem_cons.mp hp with rfl | hp
  · exact x _ (.head _)
  · exact y p hp
section
variable {w : World} {A : Around} {s : Shared} {env : Env} {E Q : Value → Shared → Prop}
/-- a if test else b, of two written ints -/
theorem m_ifc {test : PySem.Expr} {a b : Int} {ka kb : Nat} {pa pb pos : Pos} (h : wpAny (model PG w) A (isTrue test env (eval test env)) (fun c s' => Stop (∀ t tk, Q (.int (if c = true then a else b) t) { s' with toks := tk })) E s) :
    wpAny (model PG w) A (eval (.IfExp test (.Constant (.int a) ka pa) (.Constant (.int b) kb pb) pos) env) Q E s := by
  refine IfExp_ (wpAny_mono h (fun c s' hc => ?_) fun _ _ x => x)
  cases c with
  | true => exact wpAny_Constant_int (hc _ _)
  | false => exact wpAny_Constant_int (hc _ _)
end

theorem off2_nil {a b : Addr} : OwnOff [] [a, b] := fun _ h => (List.not_mem_nil h).elim
theorem off2_cons {a b c : Addr} {o : Obj} {led : List (Addr × Obj)} (h1 : @Ne Nat c a) (h2 : @Ne Nat c b) (r : OwnOff led [a, b]) : OwnOff ((c, o) :: led) [a, b] := fun p hp x hx => by
  rcases List.mem_cons.mp hp with rfl | hp
  · rcases List.mem_cons.mp hx with rfl | hx
    · exact h1
    · rw [List.mem_singleton.mp hx]; exact h2
  · exact r p hp x hx
theorem off2_app {a b : Addr} {l1 l2 : List (Addr × Obj)} (h1 : OwnOff l1 [a, b]) (h2 : OwnOff l2 [a, b]) : OwnOff (l1 ++ l2) [a, b] := fun p hp x hx => (List.mem_append.mp hp).elim (fun h => h1 p h x hx) fun h => h2 p h x hx

theorem menu_p {v : Int} (h : 0 ≤ v ∧ v < 3) : ([2, 3, 5] : List Int).getD v.toNat 0 = 2 ∨ ([2, 3, 5] : List Int).getD v.toNat 0 = 3 ∨ ([2, 3, 5] : List Int).getD v.toNat 0 = 5 := by
  obtain ⟨k, rfl⟩ := Int.eq_ofNat_of_zero_le h.1
  exact (by decide : ∀ k < 3, ([2, 3, 5] : List Int).getD k 0 = 2 ∨ ([2, 3, 5] : List Int).getD k 0 = 3 ∨ ([2, 3, 5] : List Int).getD k 0 = 5) k (Int.ofNat_lt.mp h.2)

theorem size_m {q mn v : Int} (hq : q = 2 ∨ q = 3 ∨ q = 5) (hmn : (if decide (2 < q) = true then (2 : Int) else 3) = mn) (hv : 0 ≤ v ∧ v < mn) : ∃ m : Nat, 1 + v = (m : Int) ∧ (m = 1 ∨ m = 2 ∨ (m = 3 ∧ q = 2)) := by
  obtain ⟨k, rfl⟩ := Int.eq_ofNat_of_zero_le hv.1
  refine ⟨k + 1, Int.add_comm _ _, ?_⟩
  rcases hq with rfl | rfl | rfl
  · obtain rfl : (3 : Int) = mn := hmn
    exact (by decide : ∀ k < 3, k + 1 = 1 ∨ k + 1 = 2 ∨ (k + 1 = 3 ∧ (2 : Int) = 2)) k (Int.ofNat_lt.mp hv.2)
  · obtain rfl : (2 : Int) = mn := hmn
    exact (by decide : ∀ k < 2, k + 1 = 1 ∨ k + 1 = 2 ∨ (k + 1 = 3 ∧ (3 : Int) = 2)) k (Int.ofNat_lt.mp hv.2)
  · obtain rfl : (2 : Int) = mn := hmn
    exact (by decide : ∀ k < 2, k + 1 = 1 ∨ k + 1 = 2 ∨ (k + 1 = 3 ∧ (5 : Int) = 2)) k (Int.ofNat_lt.mp hv.2)
theorem size_b {q mn : Int} (hmn : (if decide (2 < q) = true then (2 : Int) else 3) = mn) : 1 ≤ mn ∧ mn ≤ 100 := by
  split at hmn <;> omega

theorem off_fresh {g h : Heap} {L : Addr} {news vl : List (Addr × Obj)} {adr : List Addr} (N : News g L h news) (hv : ∀ p ∈ vl, h.get? p.1 = none) (hs : ∀ b ∈ adr, ∃ o, (b, o) ∈ news) : OwnOff vl adr := fun p hp b hb e => by
  obtain ⟨o, ho⟩ := hs b hb
  have := (N _ ho).1
  rw [← e, hv p hp] at this
  cases this
/-- the pool of the law -/
noncomputable def poolL (q : Int) (m : Nat) : List (List Int) := (primesL q m).filter fun x => decide (x.length = m + 1)

theorem news_swap {g h : Heap} {L r : Addr} {o : Obj} {vl news : List (Addr × Obj)} (N : News g L h ((r, o) :: (vl ++ news))) : News g L h ((r, o) :: (news ++ vl)) := fun p hp => N p (by
  rcases List.mem_cons.mp hp with rfl | hp
  · exact .head _
  · rcases List.mem_append.mp hp with hp | hp
    · exact .tail _ (List.mem_append_right _ hp)
    · exact .tail _ (List.mem_append_left _ hp))

/-! the product of the law -/
theorem ltFold_len {b : List Int} {p : Int} : ∀ (l : List (Int × Nat)) (f : List Int), (l.foldl (ltRow b p) f).length = f.length
  | [], _ => rfl
  | x :: r, f => by
    rw [List.foldl_cons, ltFold_len r]
    exact mulFold_len _ _
theorem ltFold_dg {b : List Int} {p : Int} (hp : 0 < p) : ∀ (l : List (Int × Nat)) (f : List Int), Dg p f → Dg p (l.foldl (ltRow b p) f)
  | [], _, h => h
  | x :: r, f, h => ltFold_dg hp r _ (mulFold_dg hp _ _ h)
theorem ltimesL_len {a b : List Int} {p : Int} : (ltimesL a b p).length ≤ a.length + b.length := by
  refine Nat.le_trans (trimL_len _) ?_
  rw [ltFold_len, List.length_replicate]
  exact Nat.le_refl _
theorem ltimesL_po {a b : List Int} {p : Int} (hp : 0 < p) : Po p (ltimesL a b p) := trimL_po (ltFold_dg hp _ _ (Dg.zeros hp _))
noncomputable def prodL (q : Int) (S : List (List Int)) : List Int := S.foldl (fun a b => ltimesL a b q) [1]
theorem prodL_snoc (q : Int) (S : List (List Int)) (x : List Int) : prodL q (S ++ [x]) = ltimesL (prodL q S) x q := by
  unfold prodL; rw [List.foldl_append]; rfl
theorem prodGo {q : Int} (hq : 2 ≤ q) {k : Nat} : ∀ (S : List (List Int)) (a : List Int), Po q a → (∀ x ∈ S, x.length = k) → Po q (S.foldl (fun a b => ltimesL a b q) a) ∧ (S.foldl (fun a b => ltimesL a b q) a).length ≤ a.length + S.length * k
  | [], a, h, _ => ⟨h, by simp⟩
  | x :: S, a, h, hx => by
    have h1 := ltimesL_len (a := a) (b := x) (p := q)
    have h2 := hx x (.head _)
    have ih := prodGo hq S (ltimesL a x q) (ltimesL_po (by omega)) fun y hy => hx y (.tail _ hy)
    refine ⟨ih.1, Nat.le_trans ih.2 ?_⟩
    rw [List.length_cons, Nat.succ_mul]
    omega
theorem prodL_ok {q : Int} (hq : 2 ≤ q) {k : Nat} {S : List (List Int)} (hx : ∀ x ∈ S, x.length = k) : Po q (prodL q S) ∧ (prodL q S).length ≤ 1 + S.length * k := prodGo hq S [1] (one_po hq) hx
theorem poolL_ok {q : Int} (hq : q = 2 ∨ q = 3 ∨ q = 5) {m : Nat} (hm : m = 1 ∨ m = 2 ∨ (m = 3 ∧ q = 2)) {x : List Int} (h : x ∈ poolL q m) : PrOk q x ∧ x.length = m + 1 := by
  have h1 := List.mem_filter.mp h
  exact ⟨(primesL_ok hq hm m (Nat.le_refl m)).1 x h1.1, of_decide_eq_true h1.2⟩
theorem getD_split (l : List (List Int)) {i : Nat} (h : i < l.length) : (l.getD i [] :: l.eraseIdx i).Perm l := by
  have e : l.take i ++ l[i] :: l.drop (i + 1) = l := by rw [List.getElem_cons_drop, List.take_append_drop]
  have e2 : l.getD i [] = l[i] := by rw [List.getD_eq_getElem?_getD, List.getElem?_eq_getElem h]; rfl
  rw [e2, List.eraseIdx_eq_take_drop_succ]
  exact List.perm_middle.symm.trans (by rw [e])
section
variable {w : World} {A : Around} {s : Shared} {E Q : Value → Shared → Prop}
theorem sub_lastrefs {value slice : PySem.Expr} {l a : Addr} {rs : List Addr} {n : Nat} {u : Tok} (hl : s.heap.get? l = some (listOf (refs (rs ++ [a])).toArray n)) (hz : rs.length < 2000) (h : Q (.ref a) s)
    (hs : subscripted slice false (.ref l) (.int (-1) u) = operate [.ref l, .int (-1) u] (getItem (.ref l) (.int (-1) u))) : wpAny (model PG w) A (subscriptTail value slice (.ref l) (.int (-1) u)) Q E s := by
  have hL : s.heap.IsList l (refs (rs ++ [a])).toArray := ⟨_, hl, rfl, n, rfl⟩
  have hsz : (refs (rs ++ [a])).toArray.size = rs.length + 1 := by simp
  refine tail_any hL.typeIs slot_list_getitem.lookup (wpAny_getItem_list_neg hL (by decide) (by rw [hsz]; omega) (by decide) ?_ h) hs
  rw [hsz, show (-1 + ((rs.length + 1 : Nat) : Int)).toNat = rs.length from z_pred' (rs.length + 1)]
  simp
end

theorem off_sub {led : List (Addr × Obj)} {a b : List Addr} (h : OwnOff led b) (hs : ∀ x ∈ a, x ∈ b) : OwnOff led a := fun p hp x hx => h p hp x (hs x hx)
theorem off4_cons {a b c d e : Addr} {o : Obj} {led : List (Addr × Obj)} (h1 : @Ne Nat e a) (h2 : @Ne Nat e b) (h3 : @Ne Nat e c) (h4 : @Ne Nat e d) (r : OwnOff led [a, b, c, d]) : OwnOff ((e, o) :: led) [a, b, c, d] := fun p hp x hx => by
  rcases List.mem_cons.mp hp with rfl | hp
  · simp only [List.mem_cons, List.not_mem_nil, or_false] at hx
    rcases hx with rfl | rfl | rfl | rfl
    · exact h1
    · exact h2
    · exact h3
    · exact h4
  · exact r p hp x hx
theorem off4_of {a b c d : Addr} {led : List (Addr × Obj)} (h : OwnOff led [a, b]) (h3 : AllLt c led) (h4 : LCg.Off1 d led) : OwnOff led [a, b, c, d] := fun p hp x hx => by
  simp only [List.mem_cons, List.not_mem_nil, or_false] at hx
  rcases hx with rfl | rfl | rfl | rfl
  · exact h p hp _ (.head _)
  · exact h p hp _ (.tail _ (.head _))
  · exact Nat.ne_of_lt (tb_ltOf h3 p hp)
  · have : ∀ {l : List (Addr × Obj)}, LCg.Off1 x l → ∀ p ∈ l, p.1 ≠ x := by
      intro l
      induction l with
      | nil => intro _ p hp; exact (List.not_mem_nil hp).elim
      | cons y r ih =>
        intro h p hp
        rcases List.mem_cons.mp hp with rfl | hp
        · exact h.1
        · exact ih h.2 p hp
    exact this h4 p hp
structure LSt where
  n : Nat
  n2 : Nat
  vs : List Value
  rows : List Int
  seed : Int
  ts : Tok
  rs1 : List Addr
  np : Nat
  pl : List (List Int)
  rs2 : List Addr
  nd : Nat
  dl : List (List Int)
  aw : Addr
  vl : List (Addr × Obj)

theorem pool_step {dl pl P : List (List Int)} {j : Nat} {xa : List Int} (h : (dl ++ pl).Perm P) (hx : pl[j]? = some xa) : ((dl ++ [xa]) ++ pl.eraseIdx j).Perm P := by
  have hj : j < pl.length := (List.getElem?_eq_some_iff.mp hx).1
  have e : pl.getD j [] = xa := by rw [List.getD_eq_getElem?_getD, hx]; rfl
  have h1 := getD_split pl hj
  rw [e] at h1
  refine List.Perm.trans ?_ h
  rw [List.append_assoc]
  exact List.Perm.append_left _ h1
end Mine

end
section
open PySem PySem.W PyProof.Rows PySem.Calls PySem.Spec PyProof.Rows.LCg PyProof.Rows.LCt
set_option Elab.async false
set_option maxRecDepth 100000
set_option linter.unusedVariables false
namespace Mine
section
variable {w : World} {A : Around} {base : Heap} {outer : List Env} {p : Program} {loose : List Str} {mean : ExcName → Option Value} {mg mb : Str → Option Value} {d : Nat} {s : Shared}
  {name qual : Str} {params : Arguments} {body : PySem.Expr} {scope : Scope} {cl : List (Str × Addr)} {pm ctv : Value} {c' f : Addr} {args : List Value} {binds : List (Str × Value)}
  {Q : Value → Shared → Prop} {E : Value → Shared → Prop}
/-- a lambda of the frame is called; all that stood stands on -/
theorem enterL (binds : List (Str × Value)) (C : Cx w A base outer p loose mean mg mb (d + 1) s.heap)
    (ho : s.heap.get? f = some (kla_obj name qual params body scope cl pm c' ctv)) (hcd : s.heap.CodeRec (.ref c') qual)
    (hbind : bindArgs (kla_fn name qual params body scope cl pm (.ref c') ctv) ⟨args, []⟩ = pure binds) (hloc : ∀ y ∈ binds, scope.names.lookup y.1 = some .local)
    (h : ∀ (g : Heap) (L' : Addr) (h₁ : Heap), g = s.heap → Cx w A base outer p loose mean mg mb (d + 1) g → Fr g L' h₁ (fun y => binds.reverse.lookup y) → News g L' h₁ [] →
      wpAny (model PG w) (A.deeper (envX qual scope L' f (.ref c') cl)) (eval body (envX qual scope L' f (.ref c') cl)) (fun v s' => Q v s') (fun _ _ => False)
        { s with heap := h₁, toks := s.toks + binds.length })
    (hco : scope.isCoroutine = false) (hgen : scope.isGenerator = false) (hk : scope.kind = .function)
    (hcell : ∀ x ∈ scope.names, x.2 ≠ .cell) : wpAny (model PG w) A (call (.ref f) args) Q E s := by
  refine wpAny_call ?_
  refine kla_callFunE (Nat.lt_of_le_of_lt (Nat.le_add_right _ _) C.dep) ho rfl hco hgen rfl hcd ?_
  rw [hbind]
  refine wpAny_pure (wpAny_newFunctionEnv hcell hloc (fun h₁ hns hsb => ⟨C.T.nolimit.fresh _ hsb, ?_⟩) hk)
  show codeAny _ _ (.expr body (envX qual scope s.heap.objs.size f (.ref c') cl)) _ _
  have hk₁ : ∀ b o, s.heap.get? b = some o → h₁.get? b = some o := fun b o e => hsb.extBut b o (Nat.ne_of_lt (Heap.lt_size e)) (Heap.get?_push_of_some _ e)
  exact kla_codeExpr (wpAny_mono (h s.heap _ h₁ rfl C ⟨hns, hk₁, Nat.le_refl _⟩ News.nil) (fun _ _ x => x) (fun _ _ x => x.elim))
end
section
variable {prog : Program} {w : World} {A : Around} {s : Shared} {g : Heap} {L : Addr} {m : Str → Option Value} {env : Env}
theorem comp_ind {elt : PySem.Expr} {x : Str} {scope : Scope} {cl : List (Str × Addr)} {S : List (Addr × Obj) → Prop} {P : Nat → Value → Prop} {Fin : List Value → List (Addr × Obj) → Prop} {n : Nat} (J : Nat → List Value → List (Addr × Obj) → Prop)
    (step : ∀ i ys news, i < n → J i ys news → ∀ v I oI C oC D m₂ h tk (E' : Value → Shared → Prop), P i v → NsObj oC m₂ → m₂ x = some v → Fr g L h m → News g L h ((I, oI) :: (C, oC) :: (D, lst ys) :: news) → Off3 I C D news → ((@Ne Nat I C) ∧ (@Ne Nat I D) ∧ (@Ne Nat C D)) →
      wpAny (model prog w) A (eval elt (compEnvC scope cl C env)) (CompEnd g L m { s with heap := h, toks := tk } I oI C oC D (lst ys) S (fun y news' => J (i + 1) (ys ++ [y]) news')) E' { s with heap := h, toks := tk })
    (fin : ∀ ys news, J n ys news → Fin ys news) : ∀ (k i : Nat) (ys : List Value) (news : List (Addr × Obj)), i + k = n → J i ys news → CompRest prog w A g L m env elt x scope cl s S P Fin k i ys news
  | 0, i, ys, news, e, hJ => by
    obtain rfl : i = n := by omega
    exact CompRest.zero (fin ys news hJ)
  | k + 1, i, ys, news, e, hJ => by
    refine CompRest.succ fun v I oI C oC D m₂ h tk E' hP hC hx F N off ne => ?_
    exact wpAny_mono (step i ys news (by omega) hJ v I oI C oC D m₂ h tk E' hP hC hx F N off ne) (fun y s₂ q => compEnd_mono q fun n' r => comp_ind J step fin k (i + 1) _ n' (by omega) r) fun _ _ e => e
/-- [a number drawn for spot in range(..)]: the row of draws is kept by two objects -/
theorem take_src {elt : PySem.Expr} {x : Str} {scope : Scope} {cl : List (Str × Addr)} {m : Str → Option Value} {dr rr r : Addr} {led : List (Addr × Obj)} {Fin : Shared → List Value → List (Addr × Obj) → Prop} {q a b : Int} {t₀ u₀ v₀ : Tok} {k n n2 : Nat} {vs : List Value} {rows : List Int} {seed : Int} {ts : Tok}
    (hh : A.handled = none) (F : Fr g L s.heap m) (N : News g L s.heap ((dr, listOf #[.ref rr, .int seed ts] n) :: (rr, listOf vs.toArray n2) :: led)) (hr : IsRange s.heap r a b 1 t₀ u₀ v₀) (hsm : Builtin.Range.small a b 1 = true) (hn : Builtin.Range.rangeSize a b 1 = ((k : Nat) : Int)) (hsz : k ≤ sizeLine)
    (hi : IntsAre vs rows) (hs : 0 ≤ seed ∧ seed < 2147483647) (hl : rows.length < 500)
    (turn : ∀ (n n2 : Nat) (vs : List Value) (rows : List Int) (seed : Int) (ts : Tok) I oI C oC D ys m₂ h tk (E' : Value → Shared → Prop) (Q' : Value → Shared → Prop), IntsAre vs rows → (0 ≤ seed ∧ seed < 2147483647) → rows.length < 500 → NsObj oC m₂ → Fr g L h m → News g L h ((I, oI) :: (C, oC) :: (D, lst ys) :: (dr, listOf #[.ref rr, .int seed ts] n) :: (rr, listOf vs.toArray n2) :: led) →
      OwnOff ((I, oI) :: (C, oC) :: (D, lst ys) :: []) [dr, rr] → 
      (∀ h' tk' v t n' n2' vs' rows' seed' ts', Fr g L h' m → News g L h' ((I, oI) :: (C, oC) :: (D, lst ys) :: (dr, listOf #[.ref rr, .int seed' ts'] n') :: (rr, listOf vs'.toArray n2') :: led) → IntsAre vs' rows' → (0 ≤ seed' ∧ seed' < 2147483647) → rows'.length < 500 → 0 ≤ v ∧ v < q → Q' (.int v t) { s with heap := h', toks := tk' }) →
      wpAny (model prog w) A (eval elt (compEnvC scope cl C env)) Q' E' { s with heap := h, toks := tk })
    (fin : ∀ h₁ n n2 vs rows seed ts ys zs, IntsAre vs rows → (0 ≤ seed ∧ seed < 2147483647) → rows.length < 500 → IntsAre ys zs → Dg q zs → zs.length = k → Fin { s with heap := h₁ } ys ((dr, listOf #[.ref rr, .int seed ts] n) :: (rr, listOf vs.toArray n2) :: led)) :
    CompSrc prog w A g L m env elt x scope cl Fin (.ref r) s := by
  refine CompSrc.range hh F N hr hsm hn hsz fun h₁ => ?_
  refine comp_ind (n := k) (fun i ys news => ∃ n n2 vs rows seed ts zs, news = (dr, listOf #[.ref rr, .int seed ts] n) :: (rr, listOf (List.toArray vs) n2) :: led ∧ IntsAre vs rows ∧ (0 ≤ seed ∧ seed < 2147483647) ∧ rows.length < 500 ∧ IntsAre ys zs ∧ Dg q zs ∧ zs.length = i) ?_ ?_ _ 0 [] _ (by omega) ⟨n, n2, vs, rows, seed, ts, [], rfl, hi, hs, hl, .nil, Dg.nil, rfl⟩
  · rintro i ys news hik ⟨n, n2, vs, rows, seed, ts, zs, rfl, hi, hs, hl, hys, hzs, hzl⟩ v I oI C oC D m₂ h tk E' hP hC hx F N off ne
    have o := off.mem
    have o1 := o _ (.head _)
    have o2 := o _ (.tail _ (.head _))
    refine turn n n2 vs rows seed ts I oI C oC D ys m₂ h tk E' _ hi hs hl hC F N ?_ ?_
    · intro p hp b hb e
      simp only [List.mem_cons, List.not_mem_nil, or_false] at hp hb
      rcases hb with rfl | rfl
      · rcases hp with rfl | rfl | rfl
        · exact o1.1 e.symm
        · exact o1.2.1 e.symm
        · exact o1.2.2 e.symm
      · rcases hp with rfl | rfl | rfl
        · exact o2.1 e.symm
        · exact o2.2.1 e.symm
        · exact o2.2.2 e.symm
    · intro h' tk' v t n' n2' vs' rows' seed' ts' F' N' hi' hs' hl' hv
      refine ⟨h', tk', _, rfl, F', N', Off3.of fun p hp => ?_, trivial, n', n2', vs', rows', seed', ts', zs ++ [v], rfl, hi', hs', hl', hys.append (.cons _ _ .nil), ?_, by simp [hzl]⟩
      · rcases List.mem_cons.mp hp with rfl | hp
        · exact o1
        · rcases List.mem_cons.mp hp with rfl | hp
          · exact o2
          · exact o _ (.tail _ (.tail _ hp))
      · intro z hz
        rcases List.mem_append.mp hz with hz | hz
        · exact hzs z hz
        · rw [List.mem_singleton.mp hz]; exact hv
  · rintro ys news ⟨n, n2, vs, rows, seed, ts, zs, rfl, hi, hs, hl, hys, hzs, hzl⟩
    exact fin h₁ n n2 vs rows seed ts ys zs hi hs hl hys hzs hzl
end
end Mine

end
section
set_option Elab.async false
set_option maxRecDepth 100000
set_option linter.unusedVariables false
/-! the plain law: what the splitting makes of a product of unlike primes -/
namespace Mine
/-- a collection of the pool's primes that the law may meet -/
noncomputable def Good (q : Int) (m : Nat) (S : List (List Int)) : Prop := S ≠ [] ∧ S.Nodup ∧ (∀ x ∈ S, x ∈ poolL q m) ∧ S.length ≤ (if m = 1 then 3 else 2)
/-- the sum of a's numbers by a row of numbers, from the n-th on -/
noncomputable def dot (t : Nat → Int) : List Int → Nat → Int
  | [], _ => 0
  | c :: r, n => c * t n + dot t r (n + 1)
/-- the row t is one that a brings to 0 -/
noncomputable def Ann (q : Int) (t : Nat → Int) (a : List Int) : Prop := ∀ n, q ∣ dot t a n
theorem dot_app (t : Nat → Int) : ∀ (a b : List Int) (n : Nat), dot t (a ++ b) n = dot t a n + dot t b (n + a.length)
  | [], b, n => by simp [dot]
  | c :: r, b, n => by
    show c * t n + dot t (r ++ b) (n + 1) = c * t n + dot t r (n + 1) + dot t b (n + (r.length + 1))
    rw [dot_app t r b (n + 1), show n + 1 + r.length = n + (r.length + 1) by omega, Int.add_assoc]
theorem dot_trim (t : Nat → Int) : ∀ (a : List Int) (n : Nat), dot t (trimL a) n = dot t a n
  | [], n => rfl
  | c :: r, n => by
    have ih := dot_trim t r (n + 1)
    unfold trimL
    cases e : trimL r with
    | nil =>
      rw [e] at ih
      dsimp only
      split
      · rename_i h
        show 0 = c * t n + dot t r (n + 1)
        rw [← ih, h]; simp [dot]
      · show c * t n + dot t [] (n + 1) = c * t n + dot t r (n + 1)
        rw [ih]
    | cons y u =>
      rw [e] at ih
      show c * t n + dot t (y :: u) (n + 1) = c * t n + dot t r (n + 1)
      rw [ih]
theorem dot_set (t : Nat → Int) (v : Int) : ∀ (a : List Int) (i n : Nat), i < a.length → dot t (a.set i v) n = dot t a n + (v - a.getD i 0) * t (n + i)
  | [], i, n, h => absurd h (Nat.not_lt_zero _)
  | c :: r, 0, n, _ => by
    show v * t n + dot t r (n + 1) = c * t n + dot t r (n + 1) + (v - c) * t n
    grind
  | c :: r, i + 1, n, h => by
    have ih := dot_set t v r i (n + 1) (by simpa using h)
    show c * t n + dot t (r.set i v) (n + 1) = c * t n + dot t r (n + 1) + (v - r.getD i 0) * t (n + (i + 1))
    rw [ih, show n + 1 + i = n + (i + 1) by omega]
    omega
theorem dot_zero (t : Nat → Int) : ∀ (a : List Int) (n : Nat), (∀ i, i < a.length → a.getD i 0 = 0) → dot t a n = 0
  | [], _, _ => rfl
  | c :: r, n, h => by
    have h0 : c = 0 := h 0 (by simp)
    have ih := dot_zero t r (n + 1) fun i hi => h (i + 1) (by simpa using hi)
    show c * t n + dot t r (n + 1) = 0
    rw [h0, ih]; simp
theorem dvd_emod_sub (q x : Int) : q ∣ x % q - x := ⟨-(x / q), by
  have := Int.emod_add_mul_ediv x q
  grind⟩
/-- a row times a number is taken off -/
theorem subFold_dot (q num : Int) (t : Nat → Int) (at' n : Nat) : ∀ (b : List Int) (j : Nat) (f : List Int), at' + j + b.length ≤ f.length →
    q ∣ dot t ((b.zipIdx j).foldl (subStep num q at') f) n - (dot t f n - num * dot t b (n + at' + j))
  | [], j, f, _ => by simp [dot]
  | c :: r, j, f, h => by
    rw [List.length_cons] at h
    have hj : at' + j < f.length := Nat.lt_of_lt_of_le (Nat.lt_add_of_pos_right (Nat.succ_pos _)) h
    rw [List.zipIdx_cons, List.foldl_cons]
    have hl : (subStep num q at' f (c, j)).length = f.length := by simp [subStep]
    have ih := subFold_dot q num t at' n r (j + 1) (subStep num q at' f (c, j)) (by rw [hl, z_s]; exact h)
    have e1 : dot t (subStep num q at' f (c, j)) n = dot t f n + ((f.getD (at' + j) 0 - num * c) % q - f.getD (at' + j) 0) * t (n + (at' + j)) := dot_set t _ f (at' + j) n hj
    have e2 : dot t (c :: r) (n + at' + j) = c * t (n + at' + j) + dot t r (n + at' + j + 1) := rfl
    rw [e1] at ih
    rw [e2]
    rw [show n + (at' + j) = n + at' + j from (Nat.add_assoc _ _ _).symm, show n + at' + (j + 1) = n + at' + j + 1 from rfl] at ih
    obtain ⟨u, hu⟩ := ih
    obtain ⟨v, hv⟩ := dvd_emod_sub q (f.getD (at' + j) 0 - num * c)
    refine ⟨u + v * t (n + at' + j), ?_⟩
    grind
theorem subFold_get (q num : Int) (at' : Nat) : ∀ (b : List Int) (j : Nat) (f : List Int), at' + j + b.length ≤ f.length → ∀ i,
    ((b.zipIdx j).foldl (subStep num q at') f).getD i 0 = if at' + j ≤ i ∧ i < at' + j + b.length then (f.getD i 0 - num * b.getD (i - (at' + j)) 0) % q else f.getD i 0
  | [], j, f, _, i => by
    rw [if_neg fun e => Nat.lt_irrefl _ (Nat.lt_of_le_of_lt e.1 e.2)]; rfl
  | c :: r, j, f, h, i => by
    rw [List.length_cons] at h
    have hj : at' + j < f.length := Nat.lt_of_lt_of_le (Nat.lt_add_of_pos_right (Nat.succ_pos _)) h
    rw [List.zipIdx_cons, List.foldl_cons]
    have hl : (subStep num q at' f (c, j)).length = f.length := by simp [subStep]
    rw [subFold_get q num at' r (j + 1) (subStep num q at' f (c, j)) (by rw [hl, z_s]; exact h) i]
    have hs : (subStep num q at' f (c, j)).getD i 0 = if i = at' + j then (f.getD (at' + j) 0 - num * c) % q else f.getD i 0 := by
      simp only [subStep, List.getD_eq_getElem?_getD, List.getElem?_set]
      by_cases e : at' + j = i
      · subst e; simp [hj]
      · rw [if_neg e, if_neg (Ne.symm e)]
    rw [hs]
    by_cases e : i = at' + j
    · subst e
      rw [if_neg (fun e => Nat.not_succ_le_self _ e.1), if_pos rfl, if_pos ⟨Nat.le_refl _, Nat.lt_add_of_pos_right (Nat.succ_pos _)⟩, Nat.sub_self]
      rfl
    · rw [if_neg e]
      by_cases h2 : at' + (j + 1) ≤ i ∧ i < at' + (j + 1) + r.length
      · rw [if_pos h2, if_pos (by rw [List.length_cons, ← z_s]; exact ⟨Nat.le_of_succ_le h2.1, h2.2⟩), show i - (at' + j) = (i - (at' + (j + 1))) + 1 from (Nat.sub_one_add_one_eq_of_pos (Nat.sub_pos_of_lt h2.1)).symm]
        rfl
      · rw [if_neg h2, if_neg (by rw [List.length_cons, ← z_s]; exact fun c => h2 ⟨Nat.lt_of_le_of_ne c.1 (Ne.symm e), c.2⟩)]
theorem inv_mul {a m : Int} (hm : m = 2 ∨ m = 3 ∨ m = 5) (ha : 1 ≤ a ∧ a < m) : m ∣ invL a m * a - 1 := by
  refine inv_cases hm ha (P := fun a m => m ∣ invL a m * a - 1) ?_ ?_ ?_ ?_ ?_ ?_ ?_ <;> decide
theorem zero_of {q x : Int} (h : q ∣ x) (hx : 0 ≤ x ∧ x < q) : x = 0 := by
  obtain ⟨c, rfl⟩ := h
  have : c = 0 := by
    rcases Int.lt_trichotomy c 0 with h | h | h
    · have := Int.mul_neg_of_pos_of_neg (a := q) (b := c) (by omega) h; omega
    · exact h
    · have : q * 1 ≤ q * c := Int.mul_le_mul_of_nonneg_left (by omega) (by omega)
      omega
  rw [this]; simp
theorem divNum_top {q : Int} (hq : q = 2 ∨ q = 3 ∨ q = 5) {b : List Int} {at' : Nat} {r : List Int} (hb : 1 ≤ lastL b ∧ lastL b < q) : q ∣ r.getD (at' + b.length - 1) 0 - divNum b q (invL (lastL b) q) at' r * lastL b := by
  unfold divNum
  obtain ⟨u, hu⟩ := inv_mul hq hb
  obtain ⟨v, hv⟩ := dvd_emod_sub q (r.getD (at' + b.length - 1) 0 * invL (lastL b) q)
  refine ⟨-(r.getD (at' + b.length - 1) 0 * u + v * lastL b), ?_⟩
  grind
theorem divRest_dot {q : Int} {t : Nat → Int} {b : List Int} (hA : Ann q t b) {inv : Int} {at' : Nat} {r : List Int} (h : at' + b.length ≤ r.length) (n : Nat) : q ∣ dot t (divRest b q inv at' r) n - dot t r n := by
  unfold divRest
  split
  · have h1 := subFold_dot q (divNum b q inv at' r) t at' n b 0 r (by omega)
    obtain ⟨u, hu⟩ := h1
    obtain ⟨v, hv⟩ := hA (n + at' + 0)
    refine ⟨u - divNum b q inv at' r * v, ?_⟩
    grind
  · exact ⟨0, by simp⟩
theorem divRest_top {q : Int} (hq : q = 2 ∨ q = 3 ∨ q = 5) {b : List Int} (hb0 : 0 < b.length) (hb : 1 ≤ lastL b ∧ lastL b < q) {at' : Nat} {r : List Int} (hr : Dg q r) (h : at' + b.length ≤ r.length) (hz : ∀ i, at' + b.length ≤ i → r.getD i 0 = 0) :
    ∀ i, at' + b.length - 1 ≤ i → (divRest b q (invL (lastL b) q) at' r).getD i 0 = 0 := by
  intro i hi
  have ht := divNum_top (at' := at') (r := r) hq hb
  have h9 : 0 < at' + b.length := Nat.lt_of_lt_of_le hb0 (Nat.le_add_left _ _)
  have hlt : at' + b.length - 1 < at' + b.length := Nat.sub_one_lt (Nat.ne_of_gt h9)
  have hge : ¬ i = at' + b.length - 1 → at' + b.length ≤ i := fun e => Nat.le_trans (Nat.le_of_eq (Nat.sub_add_cancel h9).symm) (Nat.succ_le_of_lt (Nat.lt_of_le_of_ne hi (Ne.symm e)))
  unfold divRest
  split
  · rw [subFold_get q _ at' b 0 r h i]
    by_cases e : i = at' + b.length - 1
    · subst e
      rw [if_pos ⟨Nat.le_sub_one_of_lt (Nat.lt_add_of_pos_right hb0), hlt⟩]
      have e2 : b.getD (at' + b.length - 1 - (at' + 0)) 0 = lastL b := by
        show b.getD (at' + b.length - 1 - at') 0 = b.getD (b.length - 1) 0
        rw [Nat.sub_right_comm, Nat.add_sub_cancel_left]
      rw [e2]
      exact Int.emod_eq_zero_of_dvd ht
    · rw [if_neg (fun c => Nat.not_lt.mpr (hge e) c.2)]; exact hz i (hge e)
  · rename_i h0
    by_cases e : i = at' + b.length - 1
    · have h1 : divNum b q (invL (lastL b) q) at' r = 0 := by
        by_cases h2 : divNum b q (invL (lastL b) q) at' r = 0
        · exact h2
        · exact absurd h2 h0
      rw [h1, ← e] at ht
      have hd : 0 ≤ r.getD i 0 ∧ r.getD i 0 < q := by
        have hl : i < r.length := e ▸ Nat.lt_of_lt_of_le hlt h
        rw [List.getD_eq_getElem?_getD, List.getElem?_eq_getElem hl]
        exact hr _ (List.getElem_mem hl)
      exact zero_of (by simpa using ht) hd
    · exact hz i (hge e)
theorem divGo_dot {q : Int} (hq : q = 2 ∨ q = 3 ∨ q = 5) {t : Nat → Int} {a b : List Int} (hA : Ann q t b) (hb0 : 0 < b.length) (hb : 1 ≤ lastL b ∧ lastL b < q) (ha : Dg q a) :
    ∀ i, i ≤ a.length + 1 - b.length → (∀ n, q ∣ dot t (divGo a b q (invL (lastL b) q) i).2 n - dot t a n) ∧ (∀ j, a.length - i ≤ j → (divGo a b q (invL (lastL b) q) i).2.getD j 0 = 0)
  | 0, _ => by
    refine ⟨fun n => ⟨0, by simp [divGo]⟩, fun j hj => ?_⟩
    show a.getD j 0 = 0
    rw [List.getD_eq_getElem?_getD, List.getElem?_eq_none (by omega)]; rfl
  | i + 1, hi => by
    have ih := divGo_dot hq hA hb0 hb ha i (Nat.le_of_succ_le hi)
    have hs := z_at (t := a.length - b.length - i) hi rfl
    have he : a.length - i = a.length - b.length - i + b.length := Nat.sub_eq_of_eq_add hs.symm
    have hle : a.length - b.length - i + b.length ≤ a.length := Nat.le_trans (Nat.le_add_right _ i) (Nat.le_of_eq hs)
    have hl := (divGo_len a b q (invL (lastL b) q) i).2
    have hd := (divGo_dg (b := b) (inv := invL (lastL b) q) (z_q0 (q25 hq)) ha i).2
    unfold divGo
    dsimp only
    refine ⟨fun n => ?_, fun j hj => ?_⟩
    · have h1 := divRest_dot (q := q) hA (inv := invL (lastL b) q) (at' := a.length - b.length - i) (r := (divGo a b q (invL (lastL b) q) i).2) (by rw [hl]; exact hle) n
      have h2 := ih.1 n
      have := Int.dvd_add h1 h2
      rw [show ∀ x y z : Int, x - y + (y - z) = x - z from fun x y z => by rw [← Int.add_sub_assoc, Int.sub_add_cancel]] at this
      exact this
    · exact divRest_top hq hb0 hb hd (by rw [hl]; exact hle) (fun i' hi' => ih.2 i' (Nat.le_trans (Nat.le_of_eq he) hi')) j (Nat.le_trans (Nat.le_of_eq (congrArg (· - 1) he).symm) hj)
theorem dot_take (t : Nat → Int) (a : List Int) (k n : Nat) (h : ∀ j, k ≤ j → a.getD j 0 = 0) : dot t (a.take k) n = dot t a n := by
  have e := dot_app t (a.take k) (a.drop k) n
  rw [List.take_append_drop] at e
  rw [e, dot_zero t (a.drop k), Int.add_zero]
  intro i hi
  have := h (k + i) (by omega)
  rw [List.getD_eq_getElem?_getD] at this ⊢
  rw [List.getElem?_drop]; exact this
theorem mrest_dot {q : Int} (hq : q = 2 ∨ q = 3 ∨ q = 5) {t : Nat → Int} {a b : List Int} (hA : Ann q t b) (hb0 : 0 < b.length) (hb : 1 ≤ lastL b ∧ lastL b < q) (ha : Dg q a) (n : Nat) : q ∣ dot t (mrestL a b q) n - dot t a n := by
  have h := divGo_dot hq hA hb0 hb ha (a.length + 1 - b.length) (Nat.le_refl _)
  unfold mrestL mdivL
  dsimp only
  rw [dot_trim, dot_take]
  · exact h.1 n
  · intro j hj; exact h.2 j (by omega)
theorem gcdGo_ann {q : Int} (hq : q = 2 ∨ q = 3 ∨ q = 5) {t : Nat → Int} : ∀ (k : Nat) (a b : List Int), Po q a → Po q b → b.length < k → Ann q t (gcdGo q k a b) → Ann q t a ∧ Ann q t b
  | 0, _, _, _, _, h, _ => absurd h (Nat.not_lt_zero _)
  | k + 1, a, b, ha, hb, hk, h => by
    unfold gcdGo at h
    split at h
    · rename_i hb0
      refine ⟨h, ?_⟩
      rw [List.eq_nil_of_length_eq_zero hb0]
      intro n; exact ⟨0, by simp [dot]⟩
    · rename_i hb0
      have hlen := mrestL_len (a := a) (b := b) (p := q)
      have ih := gcdGo_ann hq k b (mrestL a b q) hb (mrestL_po (z_q0 (q25 hq)) ha.1) (Nat.lt_of_le_of_lt hlen (Nat.lt_of_lt_of_le (Nat.sub_one_lt hb0) (Nat.le_of_lt_succ hk))) h
      have hl := hb.last (fun e => hb0 (by rw [e]; rfl))
      refine ⟨fun n => ?_, ih.1⟩
      have h1 := mrest_dot hq ih.1 (Nat.pos_of_ne_zero hb0) hl ha.1 n
      have h2 := ih.2 n
      have := Int.dvd_sub h2 h1
      rw [Int.sub_sub_self] at this
      exact this
theorem gcdGo_po {q : Int} (hq : 0 < q) : ∀ (k : Nat) (a b : List Int), Po q a → Po q b → Po q (gcdGo q k a b)
  | 0, _, _, h, _ => h
  | k + 1, a, b, h1, h2 => by
    unfold gcdGo
    split
    · exact h1
    · exact gcdGo_po hq k _ _ h2 (mrestL_po hq h1.1)
theorem dot_scale (q c : Int) (t : Nat → Int) : ∀ (a : List Int) (n : Nat), q ∣ dot t (a.map fun x => x * c % q) n - c * dot t a n
  | [], n => ⟨0, by simp [dot]⟩
  | x :: r, n => by
    obtain ⟨u, hu⟩ := dot_scale q c t r (n + 1)
    obtain ⟨v, hv⟩ := dvd_emod_sub q (x * c)
    refine ⟨u + v * t n, ?_⟩
    show x * c % q * t n + dot t (r.map fun x => x * c % q) (n + 1) - c * (x * t n + dot t r (n + 1)) = _
    grind
theorem mmonic_ann {q : Int} (hq : q = 2 ∨ q = 3 ∨ q = 5) {t : Nat → Int} {a : List Int} (ha : Po q a) (h : Ann q t (mmonicL a q)) : Ann q t a := by
  intro n
  unfold mmonicL at h
  split at h
  · have hl := ha.last (List.length_pos_iff.mp (by assumption))
    obtain ⟨u, hu⟩ := h n
    unfold mscaleL at hu
    rw [dot_trim] at hu
    obtain ⟨v, hv⟩ := dot_scale q (invL (lastL a) q) t a n
    obtain ⟨w, hw⟩ := inv_mul hq hl
    refine ⟨lastL a * (u - v) - w * dot t a n, ?_⟩
    grind
  · rename_i h0
    have e : a = [] := List.eq_nil_of_length_eq_zero (by omega)
    rw [e]
    exact ⟨0, by simp [dot]⟩
theorem mmonic_last {q : Int} (hq : q = 2 ∨ q = 3 ∨ q = 5) {a : List Int} (ha : Po q a) (h : a ≠ []) : ∃ x, mmonicL a q = x ++ [1] := by
  have hp := List.length_pos_iff.mpr h
  have hl := ha.last h
  unfold mmonicL mscaleL
  rw [if_pos hp]
  have e := drop_last hp
  refine ⟨a.dropLast.map fun one => one * invL (lastL a) q % q, ?_⟩
  have e2 : lastL a * invL (lastL a) q % q = 1 := by
    obtain ⟨w, hw⟩ := inv_mul hq hl
    have : lastL a * invL (lastL a) q = 1 + q * w := by grind
    rw [this, Int.add_mul_emod_self_left]
    rcases hq with rfl | rfl | rfl <;> decide
  conv => lhs; rw [← e]
  rw [List.map_append, List.map_singleton]
  have e3 : lastL (a.dropLast ++ [lastL a]) = lastL a := by rw [e]
  rw [e3, e2]
  exact trimL_snoc (by decide) _
/-! a row of numbers that x ++ [1] brings to 0 -/
noncomputable def dotL : List Int → List Int → Int
  | c :: r, d :: s => c * d + dotL r s
  | _, _ => 0
noncomputable def stp (x : List Int) (q : Int) (v : List Int) : List Int := v.tail ++ [(-(dotL x v)) % q]
noncomputable def stt (x : List Int) (q : Int) : Nat → List Int
  | 0 => List.replicate (x.length - 1) 0 ++ [1]
  | n + 1 => stp x q (stt x q n)
noncomputable def tt (x : List Int) (q : Int) (n : Nat) : Int := (stt x q n).getD 0 0
theorem stt_len {x : List Int} {q : Int} (hx : 0 < x.length) : ∀ n, (stt x q n).length = x.length
  | 0 => by simp [stt]; omega
  | n + 1 => by
    have ih := stt_len (q := q) hx n
    simp [stt, stp]; omega
theorem stt_get {x : List Int} {q : Int} (hx : 0 < x.length) {n i : Nat} (h : i + 1 < x.length) : (stt x q (n + 1)).getD i 0 = (stt x q n).getD (i + 1) 0 := by
  have hl := stt_len (q := q) hx n
  show ((stt x q n).tail ++ _).getD i 0 = _
  rw [List.getD_eq_getElem?_getD, List.getElem?_append_left (by rw [List.length_tail]; omega), List.getElem?_tail, List.getD_eq_getElem?_getD]
theorem tt_get {x : List Int} {q : Int} (hx : 0 < x.length) : ∀ (i n : Nat), i < x.length → tt x q (n + i) = (stt x q n).getD i 0
  | 0, n, _ => rfl
  | i + 1, n, h => by
    rw [show n + (i + 1) = n + 1 + i by omega, tt_get hx i (n + 1) (by omega), stt_get hx h]
theorem dot_stt {x : List Int} {q : Int} (hx : 0 < x.length) (n : Nat) : ∀ (r : List Int) (i : Nat), i + r.length ≤ x.length → dot (tt x q) r (n + i) = dotL r ((stt x q n).drop i)
  | [], i, _ => by simp [dot, dotL]
  | c :: r, i, h => by
    rw [List.length_cons] at h
    have hl := stt_len (q := q) hx n
    have ih := dot_stt (q := q) hx n r (i + 1) (by omega)
    have hi : i < (stt x q n).length := by omega
    have e : (stt x q n).drop i = (stt x q n).getD i 0 :: (stt x q n).drop (i + 1) := by
      rw [List.drop_eq_getElem_cons hi, List.getD_eq_getElem?_getD, List.getElem?_eq_getElem hi]; rfl
    rw [e]
    show c * tt x q (n + i) + dot (tt x q) r (n + i + 1) = c * _ + dotL r _
    rw [tt_get hx i n (by omega), ← ih, Nat.add_assoc]
theorem tt_ann {x : List Int} {q : Int} (hx : 0 < x.length) : Ann q (tt x q) (x ++ [1]) := by
  intro n
  have hl := stt_len (q := q) hx n
  rw [dot_app]
  have h1 := dot_stt (q := q) hx n x 0 (by omega)
  rw [List.drop_zero, Nat.add_zero] at h1
  have h2 : tt x q (n + x.length) = (-(dotL x (stt x q n))) % q := by
    rw [show n + x.length = n + 1 + (x.length - 1) by omega, tt_get hx _ _ (by omega)]
    show ((stt x q n).tail ++ [_]).getD (x.length - 1) 0 = _
    rw [List.getD_eq_getElem?_getD, List.getElem?_append_right (by rw [List.length_tail]; omega), List.length_tail, hl, Nat.sub_self]
    rfl
  have h3 : dot (tt x q) [1] (n + x.length) = tt x q (n + x.length) := by simp [dot]
  rw [h1, h3, h2]
  have := dvd_emod_sub q (-(dotL x (stt x q n)))
  rw [Int.sub_neg, Int.add_comm] at this
  exact this
noncomputable def goT (x : List Int) (q : Int) : Nat → List Int → List Int
  | 0, _ => []
  | N + 1, v => v.getD 0 0 :: goT x q N (stp x q v)
theorem dot_go {x : List Int} {q : Int} : ∀ (f : List Int) (N n : Nat), f.length ≤ N → dotL f (goT x q N (stt x q n)) = dot (tt x q) f n
  | [], N, n, _ => by simp [dot, dotL]
  | c :: r, 0, n, h => by simp at h
  | c :: r, N + 1, n, h => by
    show c * tt x q n + dotL r (goT x q N (stt x q (n + 1))) = c * tt x q n + dot (tt x q) r (n + 1)
    rw [dot_go r N (n + 1) (by simpa using h)]
noncomputable def chk (q : Int) (f x : List Int) : Nat → List Int → Bool
  | 0, _ => true
  | k + 1, v => decide (dotL f (goT x q f.length v) % q = 0) && chk q f x k (stp x q v)
theorem chk_of {q : Int} {f x : List Int} (h : Ann q (tt x q) f) : ∀ k n, chk q f x k (stt x q n) = true
  | 0, _ => rfl
  | k + 1, n => by
    show (decide (dotL f (goT x q f.length (stt x q n)) % q = 0) && chk q f x k (stt x q (n + 1))) = true
    rw [chk_of h k (n + 1), dot_go f f.length n (Nat.le_refl _), decide_eq_true (Int.emod_eq_zero_of_dvd (h n))]
    rfl
noncomputable def allL (q : Nat) : Nat → List (List Int)
  | 0 => [[]]
  | k + 1 => (allL q k).flatMap fun r => ((List.range q).map Int.ofNat).map fun c => c :: r
theorem mem_all {q : Nat} : ∀ (x : List Int), Dg q x → x ∈ allL q x.length
  | [], _ => by simp [allL]
  | c :: r, h => by
    have ih := mem_all (q := q) r fun y hy => h y (.tail _ hy)
    have hc := h c (.head _)
    show c :: r ∈ (allL q r.length).flatMap _
    refine List.mem_flatMap.mpr ⟨r, ih, List.mem_map.mpr ⟨c, List.mem_map.mpr ⟨c.toNat, List.mem_range.mpr (by omega), ?_⟩, rfl⟩⟩
    show ((c.toNat : Nat) : Int) = c
    omega
/-- the ways to part a collection of two or three in two -/
noncomputable def parts2 : List (List Int) → List (List (List Int) × List (List Int))
  | [a, b] => [([a], [b]), ([b], [a])]
  | [a, b, c] => [([a], [b, c]), ([b], [a, c]), ([c], [a, b]), ([b, c], [a]), ([a, c], [b]), ([a, b], [c])]
  | _ => []
noncomputable def cutS (q : Int) (S : List (List Int)) (g : List Int) : Bool := (parts2 S).any fun y => decide (g = prodL q y.1) && decide (mquoL (prodL q S) g q = prodL q y.2)
noncomputable def cutB (q : Int) (S : List (List Int)) (k : Nat) : Bool := (allL q.toNat k).all fun x => !(chk q (prodL q S) x k (stt x q 0)) || cutS q S (x ++ [1])
theorem gcd_ok {q : Int} (hq : q = 2 ∨ q = 3 ∨ q = 5) {a f : List Int} (ha : Po q a) (hf : Po q f) (hok : okG f (mgcdL a f q) = true) :
    ∃ x, mgcdL a f q = x ++ [1] ∧ Dg q x ∧ 1 ≤ x.length ∧ x.length + 1 < f.length ∧ chk q f x x.length (stt x q 0) = true := by
  have h0 : 0 < q := by omega
  unfold okG at hok
  simp only [Bool.and_eq_true, decide_eq_true_eq] at hok
  have hgp := gcdGo_po h0 (f.length + 1) a f ha hf
  have hg0 : gcdGo q (f.length + 1) a f ≠ [] := fun e => by
    have h1 := hok.1
    unfold mgcdL at h1
    rw [e] at h1
    simp [mmonicL] at h1
  obtain ⟨x, hx⟩ := mmonic_last hq hgp hg0
  have hx' : mgcdL a f q = x ++ [1] := hx
  have hpo : Po q (mgcdL a f q) := mmonicL_po h0
  rw [hx'] at hok hpo
  rw [List.length_append, List.length_singleton] at hok
  have hA := tt_ann (x := x) (q := q) (by omega)
  rw [← hx'] at hA
  have h1 := gcdGo_ann hq (f.length + 1) a f ha hf (Nat.lt_succ_self _) (mmonic_ann hq hgp hA)
  exact ⟨x, hx', fun y hy => hpo.1 y (List.mem_append_left _ hy), by omega, by omega, chk_of h1.2 _ 0⟩
theorem split_gcd {q : Int} (hq : 0 < q) {f a x : List Int} {m : Nat} (ha : Po q a) (h : splitOL f m a q = some x) : ∃ b, Po q b ∧ x = mgcdL b f q ∧ okG f x = true := by
  unfold splitOL at h
  split at h
  · rename_i h1
    obtain rfl := Option.some.inj h
    exact ⟨a, ha, rfl, h1⟩
  · split at h
    · rename_i h1
      obtain rfl := Option.some.inj h
      exact ⟨_, splitPL_po hq, rfl, h1⟩
    · cases h
noncomputable def poolE (q : Int) (m : Nat) : List (List Int) :=
  if q = 5 then (if m = 1 then [[0, 1], [1, 1], [2, 1], [3, 1], [4, 1]] else [[2, 0, 1], [3, 0, 1], [1, 1, 1], [2, 1, 1], [3, 2, 1], [4, 2, 1], [3, 3, 1], [4, 3, 1], [1, 4, 1], [2, 4, 1]])
  else if q = 3 then (if m = 1 then [[0, 1], [1, 1], [2, 1]] else [[1, 0, 1], [2, 1, 1], [2, 2, 1]])
  else if m = 1 then [[0, 1], [1, 1]] else if m = 2 then [[1, 1, 1]] else [[1, 1, 0, 1], [1, 0, 1, 1]]
/-- a number that counts x out -/
noncomputable def numOf (q : Int) (x : List Int) : Nat := (x.foldr (fun c n => c + q * n) 0).toNat
/-- what is asked of a collection of two or three -/
noncomputable def manyB (q : Int) (m : Nat) (S : List (List Int)) : Bool :=
  let N := numOf q (S.headD [])
  decide (mmonicL (prodL q S) q = prodL q S) && decide (0 < (prodL q S).length) && decide ((prodL q S).length ≠ m + 1) && decide (q ≤ (N : Int)) && decide (N < 100) && okG (prodL q S) (mgcdL (countedL N q) (prodL q S) q)
noncomputable def cutAll (q : Int) (S : List (List Int)) : Bool := (List.range ((prodL q S).length - 2)).all fun k => cutB q S (k + 1)
noncomputable def oneB (q : Int) (m : Nat) (P : List (List Int)) : Bool := P.all fun a => decide (prodL q [a] = a) && decide (mmonicL a q = a) && decide (a.length = m + 1)
theorem cut_of {q : Int} (hq : q = 2 ∨ q = 3 ∨ q = 5) {S : List (List Int)} (h : cutAll q S = true) {m : Nat} {a x : List Int} (hf : Po q (prodL q S)) (ha : Po q a) (hs : splitOL (prodL q S) m a q = some x) : ∃ y ∈ parts2 S, x = prodL q y.1 ∧ mquoL (prodL q S) x q = prodL q y.2 := by
  obtain ⟨b, hb, rfl, hok⟩ := split_gcd (by omega) ha hs
  obtain ⟨x, hx, hd, h1, h2, hc⟩ := gcd_ok hq hb hf hok
  rw [hx]
  have h3 := List.all_eq_true.mp h (x.length - 1) (List.mem_range.mpr (by omega))
  rw [show x.length - 1 + 1 = x.length by omega] at h3
  have hqn : ((q.toNat : Nat) : Int) = q := by omega
  have h4 := List.all_eq_true.mp h3 x (mem_all (q := q.toNat) x (by rw [hqn]; exact hd))
  rw [hc] at h4
  have h5 : cutS q S (x ++ [1]) = true := by simpa using h4
  obtain ⟨y, hy, h6⟩ := List.any_eq_true.mp h5
  simp only [Bool.and_eq_true, decide_eq_true_eq] at h6
  exact ⟨y, hy, h6.1, h6.2⟩
noncomputable def pairsB (P : List (List Int)) (t : List (List Int) → Bool) : Bool := P.all fun a => P.all fun b => decide (a = b) || t [a, b]
noncomputable def triB (P : List (List Int)) (t : List (List Int) → Bool) : Bool := P.all fun a => P.all fun b => P.all fun c => decide (a = b) || decide (b = c) || decide (a = c) || t [a, b, c]
noncomputable def halfB : List (List Int) → (List (List Int) → Bool) → Bool
  | [], _ => true
  | a :: r, t => (r.all fun b => t [a, b]) && halfB r t
theorem pairs_of {P : List (List Int)} {t : List (List Int) → Bool} (h : pairsB P t = true) {a b : List Int} (ha : a ∈ P) (hb : b ∈ P) (hne : a ≠ b) : t [a, b] = true := by
  have h1 := List.all_eq_true.mp (List.all_eq_true.mp h a ha) b hb
  rw [decide_eq_false hne] at h1
  simpa using h1
theorem tri_of {P : List (List Int)} {t : List (List Int) → Bool} (h : triB P t = true) {a b c : List Int} (ha : a ∈ P) (hb : b ∈ P) (hc : c ∈ P) (h1 : a ≠ b) (h2 : b ≠ c) (h3 : a ≠ c) : t [a, b, c] = true := by
  have h4 := List.all_eq_true.mp (List.all_eq_true.mp (List.all_eq_true.mp h a ha) b hb) c hc
  rw [decide_eq_false h1, decide_eq_false h2, decide_eq_false h3] at h4
  simpa using h4
theorem half_of {t : List (List Int) → Bool} : ∀ {P : List (List Int)}, halfB P t = true → ∀ {a b : List Int}, a ∈ P → b ∈ P → a ≠ b → t [a, b] = true ∨ t [b, a] = true
  | [], _, _, _, ha, _, _ => (List.not_mem_nil ha).elim
  | x :: r, h, a, b, ha, hb, hne => by
    have h' : ((r.all fun b => t [x, b]) && halfB r t) = true := h
    rw [Bool.and_eq_true] at h'
    rcases List.mem_cons.mp ha with e | ha'
    · rcases List.mem_cons.mp hb with e2 | hb'
      · exact absurd (e.trans e2.symm) hne
      · exact .inl (e ▸ List.all_eq_true.mp h'.1 b hb')
    · rcases List.mem_cons.mp hb with e2 | hb'
      · exact .inr (e2 ▸ List.all_eq_true.mp h'.1 a ha')
      · exact half_of h'.2 ha' hb' hne
theorem parts_ok : ∀ {S : List (List Int)} {y : List (List Int) × List (List Int)}, y ∈ parts2 S → (y.1 ++ y.2).Perm S ∧ y.1 ≠ [] ∧ y.2 ≠ []
  | [a, b], y, h => by
    simp only [parts2, List.mem_cons, List.not_mem_nil, or_false] at h
    rcases h with rfl | rfl
    · exact ⟨List.Perm.refl _, by simp, by simp⟩
    · exact ⟨List.Perm.swap _ _ _, by simp, by simp⟩
  | [a, b, c], y, h => by
    simp only [parts2, List.mem_cons, List.not_mem_nil, or_false] at h
    rcases h with rfl | rfl | rfl | rfl | rfl | rfl
    · exact ⟨List.Perm.refl _, by simp, by simp⟩
    · exact ⟨List.Perm.swap _ _ _, by simp, by simp⟩
    · exact ⟨List.perm_append_comm (l₁ := [c]) (l₂ := [a, b]), by simp, by simp⟩
    · exact ⟨List.perm_append_comm (l₁ := [b, c]) (l₂ := [a]), by simp, by simp⟩
    · exact ⟨List.Perm.cons a (List.Perm.swap _ _ _), by simp, by simp⟩
    · exact ⟨List.Perm.refl _, by simp, by simp⟩
  | [], _, h => by simp [parts2] at h
  | [_], _, h => by simp [parts2] at h
  | _ :: _ :: _ :: _ :: _, _, h => by simp [parts2] at h
/-- what a choice splits off is a part of the collection -/
noncomputable def CutP (q : Int) (m : Nat) (S : List (List Int)) : Prop := ∀ {a x : List Int}, Po q a → splitOL (prodL q S) m a q = some x → ∃ S1 S2 : List (List Int), (S1 ++ S2).Perm S ∧ S1 ≠ [] ∧ S2 ≠ [] ∧ x = prodL q S1 ∧ mquoL (prodL q S) x q = prodL q S2
theorem cutP_of {q : Int} (hq : q = 2 ∨ q = 3 ∨ q = 5) {m : Nat} {S : List (List Int)} (hf : Po q (prodL q S)) (h : cutAll q S = true) : CutP q m S := fun ha hs => by
  obtain ⟨y, hy, h1, h2⟩ := cut_of hq h hf ha hs
  obtain ⟨p1, p2, p3⟩ := parts_ok hy
  exact ⟨y.1, y.2, p1, p2, p3, h1, h2⟩
theorem cutP_swap {q : Int} {m : Nat} {a b : List Int} (e : prodL q [a, b] = prodL q [b, a]) (h : CutP q m [b, a]) : CutP q m [a, b] := fun ha hs => by
  rw [e] at hs
  obtain ⟨S1, S2, p, h1, h2, h3, h4⟩ := h ha hs
  exact ⟨S1, S2, p.trans (List.Perm.swap _ _ _), h1, h2, h3, e ▸ h4⟩
theorem t52m : pairsB (poolE 5 2) (manyB 5 2) = true := by decide +kernel
theorem t52s : pairsB (poolE 5 2) (fun S => decide (prodL 5 S = prodL 5 S.reverse)) = true := by decide +kernel
theorem half_cons {a : List Int} {r : List (List Int)} {t : List (List Int) → Bool} (h1 : (r.all fun b => t [a, b]) = true) (h2 : halfB r t = true) : halfB (a :: r) t = true := Bool.and_eq_true_iff.mpr ⟨h1, h2⟩
theorem all_cons {a : List Int} {r : List (List Int)} {t : List Int → Bool} (h1 : t a = true) (h2 : r.all t = true) : (a :: r).all t = true := by rw [List.all_cons, h1, h2]; rfl
theorem t52c : halfB (poolE 5 2) (fun S => cutAll 5 S) = true :=
  half_cons (by decide +kernel) (half_cons (by decide +kernel) (half_cons (by decide +kernel) (half_cons (by decide +kernel) (half_cons (by decide +kernel) (half_cons (by decide +kernel) (by decide +kernel))))))
theorem t51 : pairsB (poolE 5 1) (fun S => manyB 5 1 S && cutAll 5 S) = true := by decide +kernel
theorem t513 : triB (poolE 5 1) (fun S => manyB 5 1 S && cutAll 5 S) = true :=
  all_cons (by decide +kernel) (all_cons (by decide +kernel) (all_cons (by decide +kernel) (all_cons (by decide +kernel) (by decide +kernel))))
theorem t31 : pairsB (poolE 3 1) (fun S => manyB 3 1 S && cutAll 3 S) = true := by decide +kernel
theorem t313 : triB (poolE 3 1) (fun S => manyB 3 1 S && cutAll 3 S) = true := by decide +kernel
theorem t32 : pairsB (poolE 3 2) (fun S => manyB 3 2 S && cutAll 3 S) = true := by decide +kernel
theorem t21 : pairsB (poolE 2 1) (fun S => manyB 2 1 S && cutAll 2 S) = true := by decide +kernel
theorem t213 : triB (poolE 2 1) (fun S => manyB 2 1 S && cutAll 2 S) = true := by decide +kernel
theorem t22 : pairsB (poolE 2 2) (fun S => manyB 2 2 S && cutAll 2 S) = true := by decide +kernel
theorem t23 : pairsB (poolE 2 3) (fun S => manyB 2 3 S && cutAll 2 S) = true := by decide +kernel
/-- the seven kinds -/
theorem kinds {q : Int} {m : Nat} (hq : q = 2 ∨ q = 3 ∨ q = 5) (hm : m = 1 ∨ m = 2 ∨ (m = 3 ∧ q = 2)) {P : Int → Nat → Prop} (h21 : P 2 1) (h22 : P 2 2) (h23 : P 2 3) (h31 : P 3 1) (h32 : P 3 2) (h51 : P 5 1) (h52 : P 5 2) : P q m := by
  rcases hm with rfl | rfl | ⟨rfl, rfl⟩
  · rcases hq with rfl | rfl | rfl
    · exact h21
    · exact h31
    · exact h51
  · rcases hq with rfl | rfl | rfl
    · exact h22
    · exact h32
    · exact h52
  · exact h23
theorem pool_eq {q : Int} {m : Nat} (hq : q = 2 ∨ q = 3 ∨ q = 5) (hm : m = 1 ∨ m = 2 ∨ (m = 3 ∧ q = 2)) : poolL q m = poolE q m := by
  refine kinds hq hm (P := fun q m => poolL q m = poolE q m) ?_ ?_ ?_ ?_ ?_ ?_ ?_ <;> decide +kernel
theorem poolE_ok {q : Int} {m : Nat} (hq : q = 2 ∨ q = 3 ∨ q = 5) (hm : m = 1 ∨ m = 2 ∨ (m = 3 ∧ q = 2)) : oneB q m (poolE q m) = true ∧ poolE q m ≠ [] ∧ (poolE q m).Nodup := by
  refine kinds hq hm (P := fun q m => oneB q m (poolE q m) = true ∧ poolE q m ≠ [] ∧ (poolE q m).Nodup) ?_ ?_ ?_ ?_ ?_ ?_ ?_ <;> decide +kernel
theorem pool_ne {q : Int} {m : Nat} (hq : q = 2 ∨ q = 3 ∨ q = 5) (hm : m = 1 ∨ m = 2 ∨ (m = 3 ∧ q = 2)) : poolL q m ≠ [] ∧ (poolL q m).Nodup := by
  rw [pool_eq hq hm]; exact (poolE_ok hq hm).2
theorem one_ok {q : Int} {m : Nat} (hq : q = 2 ∨ q = 3 ∨ q = 5) (hm : m = 1 ∨ m = 2 ∨ (m = 3 ∧ q = 2)) {a : List Int} (ha : a ∈ poolL q m) : prodL q [a] = a ∧ mmonicL a q = a ∧ a.length = m + 1 := by
  rw [pool_eq hq hm] at ha
  have h := List.all_eq_true.mp (poolE_ok hq hm).1 a ha
  simp only [Bool.and_eq_true, decide_eq_true_eq] at h
  exact ⟨h.1.1, h.1.2, h.2⟩
theorem prod_po {q : Int} {m : Nat} (hq : q = 2 ∨ q = 3 ∨ q = 5) (hm : m = 1 ∨ m = 2 ∨ (m = 3 ∧ q = 2)) {S : List (List Int)} (hS : ∀ x ∈ S, x ∈ poolL q m) : Po q (prodL q S) ∧ (prodL q S).length ≤ 1 + S.length * (m + 1) := prodL_ok (by omega) fun x hx => (one_ok hq hm (hS x hx)).2.2
theorem two_ok {q : Int} {m : Nat} (hq : q = 2 ∨ q = 3 ∨ q = 5) (hm : m = 1 ∨ m = 2 ∨ (m = 3 ∧ q = 2)) {a b : List Int} (ha : a ∈ poolL q m) (hb : b ∈ poolL q m) (hne : a ≠ b) : manyB q m [a, b] = true ∧ CutP q m [a, b] := by
  have hp := (prod_po hq hm (S := [a, b]) fun x hx => by
    simp only [List.mem_cons, List.not_mem_nil, or_false] at hx
    rcases hx with rfl | rfl
    · exact ha
    · exact hb).1
  have hp2 := (prod_po hq hm (S := [b, a]) fun x hx => by
    simp only [List.mem_cons, List.not_mem_nil, or_false] at hx
    rcases hx with rfl | rfl
    · exact hb
    · exact ha).1
  rw [pool_eq hq hm] at ha hb
  have gen : ∀ {q : Int} {m : Nat}, (q = 2 ∨ q = 3 ∨ q = 5) → pairsB (poolE q m) (fun S => manyB q m S && cutAll q S) = true → a ∈ poolE q m → b ∈ poolE q m → Po q (prodL q [a, b]) → Po q (prodL q [b, a]) → manyB q m [a, b] = true ∧ CutP q m [a, b] := fun hq h ha hb hp _ => by
    have h1 := pairs_of h ha hb hne
    rw [Bool.and_eq_true] at h1
    exact ⟨h1.1, cutP_of hq hp h1.2⟩
  revert ha hb hp hp2
  refine kinds hq hm (P := fun q m => a ∈ poolE q m → b ∈ poolE q m → Po q (prodL q [a, b]) → Po q (prodL q [b, a]) → manyB q m [a, b] = true ∧ CutP q m [a, b]) (gen (.inl rfl) t21) (gen (.inl rfl) t22) (gen (.inl rfl) t23) (gen (.inr (.inl rfl)) t31) (gen (.inr (.inl rfl)) t32) (gen (.inr (.inr rfl)) t51) ?_
  intro ha hb hp hp2
  refine ⟨pairs_of t52m ha hb hne, ?_⟩
  rcases half_of t52c ha hb hne with h | h
  · exact cutP_of (.inr (.inr rfl)) hp h
  · exact cutP_swap (of_decide_eq_true (pairs_of t52s ha hb hne)) (cutP_of (.inr (.inr rfl)) hp2 h)
theorem tri_ok {q : Int} (hq : q = 2 ∨ q = 3 ∨ q = 5) {a b c : List Int} (ha : a ∈ poolL q 1) (hb : b ∈ poolL q 1) (hc : c ∈ poolL q 1) (h1 : a ≠ b) (h2 : b ≠ c) (h3 : a ≠ c) : manyB q 1 [a, b, c] = true ∧ CutP q 1 [a, b, c] := by
  have hp := (prod_po hq (.inl rfl) (S := [a, b, c]) fun x hx => by
    simp only [List.mem_cons, List.not_mem_nil, or_false] at hx
    rcases hx with rfl | rfl | rfl
    · exact ha
    · exact hb
    · exact hc).1
  rw [pool_eq hq (.inl rfl)] at ha hb hc
  have gen : ∀ {q : Int}, (q = 2 ∨ q = 3 ∨ q = 5) → triB (poolE q 1) (fun S => manyB q 1 S && cutAll q S) = true → a ∈ poolE q 1 → b ∈ poolE q 1 → c ∈ poolE q 1 → Po q (prodL q [a, b, c]) → manyB q 1 [a, b, c] = true ∧ CutP q 1 [a, b, c] := fun hq h ha hb hc hp => by
    have h4 := tri_of h ha hb hc h1 h2 h3
    rw [Bool.and_eq_true] at h4
    exact ⟨h4.1, cutP_of hq hp h4.2⟩
  rcases hq with rfl | rfl | rfl
  · exact gen (.inl rfl) t213 ha hb hc hp
  · exact gen (.inr (.inl rfl)) t313 ha hb hc hp
  · exact gen (.inr (.inr rfl)) t513 ha hb hc hp
/-- a collection is of one, or it is asked for by the tests -/
theorem good_cases {q : Int} {m : Nat} (hq : q = 2 ∨ q = 3 ∨ q = 5) (hm : m = 1 ∨ m = 2 ∨ (m = 3 ∧ q = 2)) {S : List (List Int)} (h : Good q m S) : (∃ a, S = [a] ∧ a ∈ poolL q m) ∨ (manyB q m S = true ∧ CutP q m S) := by
  obtain ⟨h1, h2, h3, h4⟩ := h
  match S, h1, h2, h3, h4 with
  | [], h1, _, _, _ => exact absurd rfl h1
  | [a], _, _, h3, _ => exact .inl ⟨a, rfl, h3 a (by simp)⟩
  | [a, b], _, h2, h3, _ =>
    simp at h2
    exact .inr (two_ok hq hm (h3 a (by simp)) (h3 b (by simp)) h2)
  | [a, b, c], _, h2, h3, h4 =>
    have e : m = 1 := by
      by_cases e : m = 1
      · exact e
      · rw [if_neg e] at h4; simp at h4
    subst e
    simp at h2
    exact .inr (tri_ok hq (h3 a (by simp)) (h3 b (by simp)) (h3 c (by simp)) h2.1.1 h2.2 h2.1.2)
  | _ :: _ :: _ :: _ :: _, _, _, _, h4 =>
    exfalso
    simp at h4
    split at h4 <;> omega
theorem many_of {q : Int} {m : Nat} {S : List (List Int)} (h : manyB q m S = true) : mmonicL (prodL q S) q = prodL q S ∧ 0 < (prodL q S).length ∧ (prodL q S).length ≠ m + 1 ∧ ∃ N : Nat, q ≤ (N : Int) ∧ N < 100 ∧ splitOL (prodL q S) m (countedL N q) q ≠ none := by
  unfold manyB at h
  simp only [Bool.and_eq_true, decide_eq_true_eq] at h
  obtain ⟨⟨⟨⟨⟨h1, h2⟩, h3⟩, h4⟩, h5⟩, h6⟩ := h
  exact ⟨h1, h2, h3, _, h4, h5, by rw [sp_1 h6]; simp⟩
theorem good_monic {q : Int} {m : Nat} (hq : q = 2 ∨ q = 3 ∨ q = 5) (hm : m = 1 ∨ m = 2 ∨ (m = 3 ∧ q = 2)) {S : List (List Int)} (h : Good q m S) : mmonicL (prodL q S) q = prodL q S := by
  rcases good_cases hq hm h with ⟨a, rfl, ha⟩ | h
  · have := one_ok hq hm ha
    rw [this.1]; exact this.2.1
  · exact (many_of h.1).1
theorem good_part {q : Int} {m : Nat} {S S1 S2 : List (List Int)} (h : Good q m S) (p : (S1 ++ S2).Perm S) (h1 : S1 ≠ []) (h2 : S2 ≠ []) : Good q m S1 ∧ Good q m S2 := by
  obtain ⟨_, g2, g3, g4⟩ := h
  have hn := List.nodup_append.mp (p.nodup_iff.mpr g2)
  have hl := p.length_eq
  rw [List.length_append] at hl
  exact ⟨⟨h1, hn.1, fun x hx => g3 x (p.mem_iff.mp (List.mem_append_left _ hx)), by omega⟩, ⟨h2, hn.2.1, fun x hx => g3 x (p.mem_iff.mp (List.mem_append_right _ hx)), by omega⟩⟩
theorem eq_law {q : Int} {m : Nat} (hq : q = 2 ∨ q = 3 ∨ q = 5) (hm : m = 1 ∨ m = 2 ∨ (m = 3 ∧ q = 2)) : EqLaw q m (prodL q) (Good q m) where
  po := fun {S} h => by
    have h1 := prod_po hq hm h.2.2.1
    have h2 : S.length ≤ 3 := by have := h.2.2.2; split at this <;> omega
    have h3 : S.length * (m + 1) ≤ 3 * 4 := Nat.mul_le_mul h2 (by omega)
    refine ⟨h1.1, by omega, ?_⟩
    rcases good_cases hq hm h with ⟨a, rfl, ha⟩ | h
    · have := one_ok hq hm ha
      rw [this.1, this.2.2]; omega
    · exact (many_of h.1).2.1
  one := fun {S} h hl => by
    rcases good_cases hq hm h with ⟨a, rfl, ha⟩ | h
    · rw [(one_ok hq hm ha).1]
    · exact absurd hl (many_of h.1).2.2.1
  many := fun {S} h hl => by
    rcases good_cases hq hm h with ⟨a, rfl, ha⟩ | h
    · have := one_ok hq hm ha
      rw [this.1] at hl
      exact absurd this.2.2 hl
    · exact (many_of h.1).2.2.2
  cut := fun {S x a} h hl ha hs => by
    rcases good_cases hq hm h with ⟨b, rfl, hb⟩ | h'
    · have := one_ok hq hm hb
      rw [this.1] at hl
      exact absurd this.2.2 hl
    · obtain ⟨S1, S2, p, h1, h2, h3, h4⟩ := h'.2 ha hs
      have g := good_part h p h1 h2
      exact ⟨S1, S2, g.1, g.2, p, h3, h4⟩
  pos := fun {S} h => List.length_pos_iff.mpr h.1
end Mine

end
section
open PySem PySem.W PyProof.Rows PySem.Calls PySem.Spec
set_option Elab.async false
set_option maxRecDepth 100000
set_option linter.unusedVariables false
namespace Mine
theorem good_of {q : Int} {m nT : Nat} (hq : q = 2 ∨ q = 3 ∨ q = 5) (hm : m = 1 ∨ m = 2 ∨ (m = 3 ∧ q = 2)) {dl pl : List (List Int)} (h : (dl ++ pl).Perm (poolL q m)) (h1 : pl = [] ∨ 1 ≤ dl.length) (h2 : dl.length ≤ nT) (h3 : (m = 1 ∧ nT ≤ 3) ∨ (m ≠ 1 ∧ nT ≤ 2)) : Good q m dl := by
  have hp := pool_ne hq hm
  refine ⟨?_, (List.nodup_append.mp (h.nodup_iff.mpr hp.2)).1, fun x hx => h.mem_iff.mp (List.mem_append_left _ hx), ?_⟩
  · rintro rfl
    rcases h1 with rfl | h1
    · exact hp.1 h.symm.eq_nil
    · simp at h1
  · split <;> omega
theorem news_rot {g h : Heap} {L : Addr} {A vl : List (Addr × Obj)} {x : Addr × Obj} (N : News g L h (A ++ (vl ++ [x]))) : News g L h (A ++ (x :: vl)) := fun p hp => N p (by
  rcases List.mem_append.mp hp with hp | hp
  · exact List.mem_append_left _ hp
  · rcases List.mem_cons.mp hp with rfl | hp
    · exact List.mem_append_right _ (List.mem_append_right _ (.head _))
    · exact List.mem_append_right _ (List.mem_append_left _ hp))

theorem off_tab {g h : Heap} {L a : Addr} {news vl : List (Addr × Obj)} {ps : Array Value} (N : News g L h news) (h9 : (a, tabObj ps) ∈ news) (hv : ∀ p ∈ vl, p ∈ news) (hl : Lists vl) : OwnOff vl [a] := fun p hp b hb e => by
  rw [List.mem_singleton.mp hb] at e
  obtain ⟨its, n, hi⟩ := hl p hp
  have h1 := (N _ (hv p hp)).1
  have h2 := (N _ h9).1
  rw [e] at h1
  rw [h2] at h1
  have h3 : tabObj ps = listOf its n := (Option.some.inj h1).trans hi
  have h4 : Data.fields ps = Data.seq its n := congrArg Obj.data h3
  cases h4
structure CSt where
  n : Nat
  n2 : Nat
  vs : List Value
  rows : List Int
  seed : Int
  ts : Tok
  rc : List Addr
  nc : Nat
  cs : List (List Int)
  vl : List (Addr × Obj)
theorem refs_rev (rs : List Addr) : (refs rs).toArray.toList.reverse = refs rs.reverse := by simp [refs]
theorem off3_cons {a b c e : Addr} {o : Obj} {led : List (Addr × Obj)} (h1 : @Ne Nat e a) (h2 : @Ne Nat e b) (h3 : @Ne Nat e c) (r : OwnOff led [a, b, c]) : OwnOff ((e, o) :: led) [a, b, c] := fun p hp x hx => by
  rcases List.mem_cons.mp hp with rfl | hp
  · simp only [List.mem_cons, List.not_mem_nil, or_false] at hx
    rcases hx with rfl | rfl | rfl
    · exact h1
    · exact h2
    · exact h3
  · exact r p hp x hx
theorem q_b {q : Int} (hq : q = 2 ∨ q = 3 ∨ q = 5) : 1 ≤ q ∧ q ≤ 100 := ⟨Int.le_trans (by decide) (q25 hq).1, Int.le_trans (q25 hq).2 (by decide)⟩
theorem off_lt {a : Addr} {led : List (Addr × Obj)} (h : AllLt a led) : OwnOff led [a] := fun p hp x hx => by
  rw [List.mem_singleton.mp hx]; exact Nat.ne_of_lt (tb_ltOf h p hp)
theorem tab_of {g h : Heap} {L a : Addr} {ps : Array Value} (x : h.get? a = some (tabObj ps) ∧ a ≠ L ∧ g.get? a = none) : ∃ qs : Array Value, h.get? a = some (tabObj qs) ∧ a ≠ L ∧ g.get? a = none := ⟨ps, x⟩
theorem news_ins {g h : Heap} {L a : Addr} {o : Obj} {news : List (Addr × Obj)} (N : News g L h news) (x : h.get? a = some o ∧ a ≠ L ∧ g.get? a = none) : News g L h ((a, o) :: news) := fun p hp => by
  rcases List.mem_cons.mp hp with rfl | hp
  · exact x
  · exact N p hp
theorem news_rot2 {g h : Heap} {L : Addr} {A vl r : List (Addr × Obj)} {x : Addr × Obj} (N : News g L h (A ++ (vl ++ (x :: r)))) : News g L h (A ++ (x :: (vl ++ r))) := fun p hp => N p (by
  simp only [List.mem_append, List.mem_cons] at hp ⊢
  rcases hp with h | h | h | h
  · exact .inl h
  · exact .inr (.inr (.inl h))
  · exact .inr (.inl h)
  · exact .inr (.inr (.inr h)))
theorem y_sub1 {v : Int} {m : Nat} (h : 1 + v = (m : Int)) : v = (m : Int) - 1 := by rw [← h, Int.add_comm, Int.add_sub_cancel]
theorem y_one_sub {m : Int} : 1 + (m - 1) = m := by rw [Int.add_comm, Int.sub_add_cancel]
theorem y_pr75 {q : Int} {m a : Nat} (hm : m = 1 ∨ m = 2 ∨ (m = 3 ∧ q = 2)) (h : a ≤ 25 * m) : a ≤ 75 := Nat.le_trans h (Nat.mul_le_mul_left 25 (m3 hm))
theorem y_pr {q : Int} {m a b : Nat} (hm : m = 1 ∨ m = 2 ∨ (m = 3 ∧ q = 2)) (e : a = b) (h : b ≤ 25 * m) : a < 2000 := e ▸ Nat.lt_of_le_of_lt (y_pr75 hm h) (by decide)
theorem y_turn {m : Nat} {mn : Int} (h : (if ((m : Int) == 1) = true then (3 : Int) else 2) = mn) : (m = 1 ∧ mn = 3) ∨ (m ≠ 1 ∧ mn = 2) := by
  rw [← h]
  by_cases e : m = 1
  · exact .inl ⟨e, by simp [e]⟩
  · refine .inr ⟨e, ?_⟩
    rw [if_neg]
    simp
    omega
theorem y_turn_b {m : Nat} {mn : Int} (h : (m = 1 ∧ mn = 3) ∨ (m ≠ 1 ∧ mn = 2)) : 1 ≤ mn ∧ mn ≤ 100 := by omega
theorem y_turn_n {m : Nat} {mn v : Int} (h : (m = 1 ∧ mn = 3) ∨ (m ≠ 1 ∧ mn = 2)) (hv : 0 ≤ v ∧ v < mn) : ∃ n : Nat, 1 + v = (n : Int) ∧ (1 ≤ n ∧ n ≤ 3) ∧ ((m = 1 ∧ n ≤ 3) ∨ (m ≠ 1 ∧ n ≤ 2)) := by
  obtain ⟨k, rfl⟩ := Int.eq_ofNat_of_zero_le hv.1
  refine ⟨k + 1, Int.add_comm _ _, ?_⟩
  rcases h with ⟨e, rfl⟩ | ⟨e, rfl⟩
  · have h3 : k + 1 ≤ 3 := Int.ofNat_lt.mp hv.2
    exact ⟨⟨Nat.succ_le_succ (Nat.zero_le k), h3⟩, .inl ⟨e, h3⟩⟩
  · have h3 : k + 1 ≤ 2 := Int.ofNat_lt.mp hv.2
    exact ⟨⟨Nat.succ_le_succ (Nat.zero_le k), Nat.le_succ_of_le h3⟩, .inr ⟨e, h3⟩⟩
theorem y_small {n : Nat} (h : n ≤ 100) : Builtin.Range.small 0 (n : Int) 1 = true := small_one (by omega) (by omega) (by omega) (by omega)
theorem y_size (n : Nat) : Builtin.Range.rangeSize 0 (n : Int) 1 = (n : Int) := by rw [rangeSize_nat]; exact z_e0 _
theorem y_len1 {a b c d : Nat} (e : a = b) (h : c + b = d) (h2 : d ≤ 75) : a < 2000 := by omega
theorem y_len2 {a b c d : Nat} (e : a = c) (h : c + b = d) (h2 : d ≤ 75) : a < 1900 := by omega
theorem y_len3 {a c d : Nat} {x : List Int} {r : List (List Int)} (e : a = (x :: r).length) (h : c + (x :: r).length = d) (h2 : d ≤ 75) : 1 ≤ a ∧ a ≤ 100 := by
  rw [List.length_cons] at e h; omega
theorem y_cast {a : Nat} (h : 1 ≤ a ∧ a ≤ 100) : 1 ≤ (a : Int) ∧ (a : Int) ≤ 100 := by omega
theorem y_un {a c : Nat} (h : a + 3 + 66 < c) : a + 3 + 64 < c := Nat.lt_of_le_of_lt (Nat.add_le_add_left (by decide) _) h
theorem y_q2 {q : Int} (hq : q = 2 ∨ q = 3 ∨ q = 5) : 2 ≤ q := (q25 hq).1
theorem y_pl {q : Int} {m n i l z : Nat} (hm : m = 1 ∨ m = 2 ∨ (m = 3 ∧ q = 2)) (h : (m = 1 ∧ n ≤ 3) ∨ (m ≠ 1 ∧ n ≤ 2)) (h1 : l ≤ i) (h2 : i < n) (hz : z ≤ 1 + l * (m + 1)) : z < 100 := by
  have hn : n ≤ 3 := h.elim (fun h => h.2) fun h => Nat.le_succ_of_le h.2
  have h3 : l * (m + 1) ≤ 3 * (3 + 1) := Nat.mul_le_mul (Nat.le_of_lt (Nat.lt_of_lt_of_le (Nat.lt_of_le_of_lt h1 h2) hn)) (Nat.succ_le_succ (m3 hm))
  exact Nat.lt_of_le_of_lt (Nat.le_trans hz (Nat.add_le_add_left h3 1)) (by decide)
theorem y_g3 {q : Int} {m : Nat} {S : List (List Int)} (h : Good q m S) : S.length ≤ 3 := by
  have := h.2.2.2; split at this <;> omega
theorem y_rc {a b i n : Nat} (e : a = b) (h : b ≤ i) (h1 : i ≤ n) (h2 : n < 4) : a < 100 := e ▸ Nat.lt_trans (Nat.lt_of_le_of_lt (Nat.le_trans h h1) h2) (by decide)
theorem y_succ {v : Int} (h : 0 ≤ v ∧ v < 4) : ∃ n : Nat, 1 + v = (n : Int) ∧ n ≤ 4 := by
  obtain ⟨k, rfl⟩ := Int.eq_ofNat_of_zero_le h.1
  exact ⟨k + 1, Int.add_comm _ _, Int.ofNat_lt.mp h.2⟩
theorem y_zs {a n : Nat} (e : a = n) (h : n ≤ 4) : a < 1000 ∧ a < 100 := e ▸ ⟨Nat.lt_of_le_of_lt h (by decide), Nat.lt_of_le_of_lt h (by decide)⟩
theorem y_s1 (L : Nat) : @Ne Nat (L + 1) L := Nat.succ_ne_self L
theorem y_s2 (L : Nat) : @Ne Nat (L + 1 + 1) L := Nat.ne_of_gt (Nat.lt_succ_of_lt (Nat.lt_succ_self L))
theorem y_t1 {L : Nat} (h : 209 < L) : @Ne Nat (L + 1) 209 := Nat.ne_of_gt (Nat.lt_succ_of_lt h)
theorem y_t2 {L : Nat} (h : 209 < L) : @Ne Nat (L + 1 + 1) 209 := Nat.ne_of_gt (Nat.lt_succ_of_lt (Nat.lt_succ_of_lt h))
theorem y_t3 {L : Nat} (h : 209 < L) : @Ne Nat (L + 1 + 1 + 1) 209 := Nat.ne_of_gt (Nat.lt_succ_of_lt (Nat.lt_succ_of_lt (Nat.lt_succ_of_lt h)))
end Mine

end

open PySem PySem.W PyProof.Rows PySem.Calls PySem.Spec
set_option Elab.async false
set_option maxRecDepth 100000
set_option linter.unusedVariables false
namespace Mine
theorem fill_J : Fill PySem.Challenge.rw_nn0259_01 Mine.hd.heap_39 := by w_top off; k_fill; trivial
set_option hygiene false in
local macro_rules | `(tactic| walk_at "m_li") => `(tactic| first | exact LI.news (by k_asm) (by k_mem) (by first | assumption | exact IntsAre.nil | exact IntsAre.cons _ _ IntsAre.nil) | exact LI.keeps (by assumption) (Fr.keep (by k_asm)) | exact LX.li (by assumption) (by k_asm) (by k_asm) (by walk_at "m_sub"))
local macro_rules | `(tactic| walk_at "m_sub") => `(tactic| first
  | (intro p hp; assumption)
  | (intro p hp; exact List.mem_append_left _ hp)
  | (intro p hp; exact List.mem_append_right _ hp)
  | exact List.forall_mem_nil _
  | (refine List.forall_mem_cons.mpr ⟨by k_dflt k_mem, ?_⟩; walk_at "m_sub")
  | (refine sub_app ?_ ?_ <;> walk_at "m_sub")
  | (intro p hp; refine List.Mem.tail _ ?_; revert p; walk_at "m_sub"))
set_option hygiene false in
local macro_rules | `(tactic| walk_at "m_enterC") => `(tactic| (walk_at "m_a"; k_dflt (refine enterC C (by k_is) (by k_is) (by exact BindsTo.of_eq rfl) (by exact rfl) (by decide +kernel) ?_ (by rfl) (by rfl) (by rfl)); clear C; intro g L h tk cells hg C F N Y; walk_at "m_b"; (first | obtain ⟨o', rfl, d1'⟩ := PyProof.Rows.CellsAre.one Y | obtain ⟨o', o2', rfl, d1', d2'⟩ := PyProof.Rows.CellsAre.two Y | obtain ⟨o', o2', o3', rfl, d1', d2', d3'⟩ := PyProof.Rows.CellsAre.three Y | obtain ⟨o', o2', o3', o4', rfl, d1', d2', d3', d4'⟩ := PyProof.Rows.CellsAre.four Y); clear Y; (try simp only [List.cons_append, List.nil_append] at N); (try dsimp only)))
set_option hygiene false in
local macro_rules | `(tactic| walk_at "m_enter") => `(tactic| (walk_at "m_a"; k_dflt (refine enter C (by k_is) (by k_is) (by exact BindsTo.of_eq rfl) (by exact locs rfl) ?_ (by rfl) (by rfl) (by rfl) (by decide)); clear C; intro g L h hg C F N; walk_at "m_b"))
set_option hygiene false in
local macro_rules | `(tactic| walk_at "m_a") => `(tactic| (obtain ⟨hd0, dp, fr, gd, un⟩ := A; obtain rfl : hd0 = none := C.hd))
set_option hygiene false in
local macro_rules | `(tactic| walk_at "m_b") => `(tactic| (have B := C.B; have T := C.T; have X := C.X; have hh := C.hd; (try dsimp only)))
set_option hygiene false in
local macro_rules | `(tactic| walk_at "m_cx") => `(tactic| exact Cx.mono (Cx.step (by assumption) (by k_asm) rfl rfl) (by decide))
set_option hygiene false in
local macro_rules | `(tactic| walk_at "m_new") => `(tactic| (intro h' tk' r' hR'; walk_at "m_new2"))
set_option hygiene false in
local macro_rules | `(tactic| walk_at "m_new2") => `(tactic| (obtain ⟨kp', ⟨vs', n', hl', hi'⟩, fr'⟩ := hR'; have F' := Fr.after (by k_asm) kp'; have N' := news_add (by k_asm) (by k_asm) kp' hl' fr'; clear kp' hl' fr'; k_sweep; (try dsimp only)))
local macro_rules | `(tactic| walk_at "m_go") => `(tactic| (show wpAny _ _ _ _ _ _; k_fold; k_steps))
local macro_rules | `(tactic| walk_at "WPost") => `(tactic| dsimp only [WPost])
local macro_rules | `(tactic| walk_at "FPost") => `(tactic| dsimp only [FPost])
local macro_rules | `(tactic| walk_at "m_binds") => `(tactic| repeat (first | exact Binds.nil | refine Binds.cons rfl ?_))
set_option hygiene false in
local macro_rules | `(tactic| walk_at "m_fend") => `(tactic| refine FEnd.intro (_, _) (by k_asm) (by k_asm) (by walk_at "m_sub") (by walk_at "m_sub") (by exact rfl) (by walk_at "m_binds") ?_)
set_option hygiene false in
local macro_rules | `(tactic| walk_at "m_ret") => `(tactic| refine k _ _ _ (retL hg (by k_asm) (by k_asm) (by k_mem) (by assumption) ?_))
local macro_rules | `(tactic| walk_at "subscriptTail Name Slice ref ref") => do
  let xD := Lean.mkIdent `D'
  let xws := Lean.mkIdent `ws'
  let xhI := Lean.mkIdent `hI'
  `(tactic| (k_dflt (refine kmk_slice_ints (by k_asm) (by k_asm) (by kmk_list) (by exact .none) (by exact .int _ _) (by with_reducible assumption) (by exact kmk_upto (by with_reducible assumption) (by omega)) (by rfl) ?_ (by with_unfolding_all rfl) (by kmk_pure) (by exact kmk_sz (by with_reducible assumption) (by rw [sizeLine_eq]; omega))); intro $xD:ident $xws:ident h' F' N' l1 $xhI:ident hC' hL'; (try clear hC'); (try k_lt l1); (try k_sweep)))
local macro_rules | `(tactic| walk_at "exec While BoolOp cons nil") => `(tactic| refine stop_of ?_)
local macro_rules | `(tactic| walk_at "exec While Compare cons nil") => `(tactic| refine stop_of ?_)
local macro_rules | `(tactic| walk_at "pyIter ref") => `(tactic| refine stop_of ?_)
local macro_rules | `(tactic| walk_at "newList") => do
  let xl := Lean.mkIdent `l'
  `(tactic| (k_dflt (refine newList_K (by k_asm) (by k_asm) ?_); intro $xl:ident h' F' N' l1; (try k_lt l1); (try k_sweep)))
local macro_rules | `(tactic| walk_at "call builtin:list.append") => `(tactic| (k_dflt (refine m_append (by k_asm) (by k_asm) (by k_upd) (by walk_at "m_ap") ?_); intro h' F' N'; (try k_sweep)))
local macro_rules | `(tactic| walk_at "m_ap") => `(tactic| assumption)
local macro_rules | `(tactic| walk_at "execs cons Assign cons") => `(tactic| refine wpAny_execs_cons ?_)
local macro_rules | `(tactic| walk_at "execs cons Assign nil") => `(tactic| refine wpAny_execs_cons ?_)
local macro_rules | `(tactic| walk_at "callWith builtin:len") => `(tactic| refine PyProof.Rows.callWith_builtin1 ?_)
local macro_rules | `(tactic| walk_at "callWith builtin:max") => `(tactic| refine PyProof.Rows.callWith_builtin1 ?_)
local macro_rules | `(tactic| walk_at "callWith builtin:list.append") => `(tactic| refine PyProof.Rows.callWith_method1 ?_)
local macro_rules | `(tactic| walk_at "eval Name") => `(tactic| ((first | (with_reducible show wpAny _ _ (eval _ (envOf _ _ _ _ _)) _ _ _) | (with_reducible show wpAny _ _ (eval _ (envOfC _ _ _ _ _)) _ _ _)); k_dflt (first
  | refine nameX_L (by k_asm) (by rfl) ?_ (by rfl) (by rfl)
  | refine nameX_B (by k_asm) (by k_asm) (by k_asm) (by k_is) (by boot_fast) (by decide) ?_ (by rfl) (by rfl)
  | refine nameX_K (by k_asm) (by k_asm) (by k_asm) (by k_is) ?_ (by rfl) (by rfl)
  | refine nameX_C (by k_asm) (by rfl) (by k_mem) (by k_asm) ?_ (by rfl) (by rfl))))
local macro_rules | `(tactic| walk_at "m_len") => `(tactic| first | assumption | exact Nat.lt_trans (by with_reducible assumption) (by decide) | omega | decide | (simp only [List.length_map, List.length_range, List.length_take, List.length_set, List.length_replicate, List.length_append, List.length_cons, List.length_nil]; omega))
set_option hygiene false in
local macro_rules | `(tactic| walk_at "m_int") => `(tactic| (intro h' tk' t' kp'; walk_at "m_int2"))
set_option hygiene false in
local macro_rules | `(tactic| walk_at "m_int2") => `(tactic| (have F' := Fr.after (by k_asm) kp'; have N' := news_keeps (by k_asm) kp'; clear kp'; k_sweep; (try dsimp only)))
local macro_rules | `(tactic| walk_at "m_args") => `(tactic| repeat ((fail_if_success (with_reducible intro _)); first | with_reducible assumption | ((with_reducible show Cx _ _ _ _ _ _ _ _ _ _ _); walk_at "m_cx") | ((with_reducible show LI _ _ _); walk_at "m_li") | walk_at "m_len"))
local macro_rules | `(tactic| walk_at "FPost1") => `(tactic| dsimp only [FPost1])
set_option hygiene false in
local macro_rules | `(tactic| walk_at "binaryOp Mult ref int") => `(tactic| (refine m_zeros (by k_asm) (by k_asm) (by omega) (by omega) ?_; intro D' ws' h' F' N' l1 hz'; (try k_lt l1); (try k_sweep)))
local macro_rules | `(tactic| walk_at "m_fend1") => `(tactic| refine FEnd1.intro (by k_asm) (by k_asm) (by k_mem) (by walk_at "m_sub") (by walk_at "m_sub") (by walk_at "m_binds") (by assumption) ?_)
local macro_rules | `(tactic| walk_at "binaryOp Mult int int") => `(tactic| (with_reducible refine PyProof.Rows.mul_int ?_ (by first | exact PySem.IntMulOk.of_left (PySem.intBits_le_64 (by omega) (by omega)) | exact PySem.IntMulOk.of_right (PySem.intBits_le_64 (by omega) (by omega)))))
local macro_rules | `(tactic| k_all) => `(tactic| (refine off_app ?_ ?_ <;> k_all))
local macro_rules | `(tactic| walk_at "setItem ref int") => `(tactic| (k_dflt (refine ksa_set (by k_asm) (by k_asm) (by k_upd) (by with_reducible assumption) (by omega) (by omega) (by omega) ?_); intro h' F' N' hi' hl' hs'; clear hl' hs'; (try k_sweep)))
local macro_rules | `(tactic| walk_at "m_weak") => `(tactic| exact cb_drop (by k_asm) (by walk_at "m_sub"))
local macro_rules | `(tactic| walk_at "call type:list") => do
  let xDl := Lean.mkIdent `Dl
  let xcl := Lean.mkIdent `cl
  `(tactic| (k_dflt (refine list_copyK (by k_asm) (by k_asm) (by kmk_list) ?_ (by exact kmk_sz (by with_reducible assumption) (by simp only [sizeLine_eq, List.length_take]; omega))); intro $xDl:ident $xcl:ident h' F' N' l1; (try k_lt l1); (try k_sweep)))
local macro_rules | `(tactic| walk_at "call builtin:len") => `(tactic| refine len_LI (by walk_at "m_li") (by walk_at "m_len") ?_)
local macro_rules | `(tactic| walk_at "GPost") => `(tactic| dsimp only [GPost])
set_option hygiene false in
local macro_rules | `(tactic| walk_at "m_units") => `(tactic| (show un + 3 + 64 < cLine; first | exact un_of C.un (by decide) | (have hun := C.un; (try dsimp only at hun); omega)))
local macro_rules | `(tactic| walk_at "compareOp NotEq ref ref") => `(tactic| (refine ne_LI (by walk_at "m_li") (by walk_at "m_li") (by walk_at "m_units") ?_))
local macro_rules | `(tactic| walk_at "compareOp Eq ref ref") => `(tactic| (refine eq_LI (by walk_at "m_li") (by walk_at "m_li") (by walk_at "m_units") ?_))
local macro_rules | `(tactic| walk_at "call builtin:list.pop") => `(tactic| (k_dflt (refine kpa_pop (by k_asm) (by k_asm) (by k_upd) (by with_reducible assumption) (by omega) (by rw [sizeLine_eq]; omega) ?_); intro h' t' F' N' hI'; (try dsimp only [List.nil_append, List.cons_append] at N')))
local macro_rules | `(tactic| walk_at "binaryOp Add ref ref") => do
  let xD := Lean.mkIdent `D'
  let xu := Lean.mkIdent `us'
  let xh := Lean.mkIdent `hI'
  `(tactic| (refine add_LI (by k_asm) (by k_asm) (by walk_at "m_li") (by walk_at "m_li") (by walk_at "m_len") ?_; intro $xD:ident $xu:ident h' F' N' l1 $xh:ident; (try k_lt l1); (try k_sweep)))
set_option hygiene false in
local macro_rules | `(tactic| k_ne) => `(tactic| (refine neN ?_; (try dsimp only); first | with_reducible assumption | with_reducible exact Ne.symm (by with_reducible assumption) | with_reducible exact Nat.ne_of_gt (by with_reducible assumption) | with_reducible exact Nat.ne_of_lt (by with_reducible assumption) | omega))
section
variable {w : World} {A : Around} {base : Heap} {outer : List Env} {p : Program} {loose : List Str} {mean : ExcName → Option Value} {mg mb : Str → Option Value} {s : Shared} {Q : Value → Shared → Prop} {E : Value → Shared → Prop}

set_option maxHeartbeats 2000000 in
theorem c_mdegree {a : Addr} {ns : List Int} (C : Cx w A base outer p loose mean mg mb 1 s.heap) (ha : LI s.heap a ns) (hn : ns.length < 1000)
    (k : ∀ h' tk' t, Kp s.heap h' → Q (.int ((ns.length : Int) - 1) t) { s with heap := h', toks := tk' }) : wpAny (model PG w) A (call (.ref 42) [.ref a]) Q E s := by
  walk_at "m_enter"
  rw [← hg] at ha
  obtain ⟨vs, hL, hi⟩ := ha.list
  walk_at "m_go"
  exact k _ _ _ (hg ▸ F.keep)

set_option maxHeartbeats 2000000 in
theorem c_mtrim {a : Addr} {ns : List Int} (C : Cx w A base outer p loose mean mg mb 1 s.heap) (ha : LI s.heap a ns) (hn : ns.length < 1000)
    (k : ∀ h' tk' r, RetL s.heap h' r (trimL ns) → Q (.ref r) { s with heap := h', toks := tk' }) : wpAny (model PG w) A (call (.ref 35) [.ref a]) Q E s := by
  walk_at "m_enter"
  rw [← hg] at ha
  obtain ⟨vs, hL, hi⟩ := ha.list
  walk_at "m_go"
  refine m_while (σ := Int × Tok) (fun _ => []) (fun c => [(Str.ofString "many", .int c.1 c.2), (Str.ofString "a", .ref a)]) (fun c => 0 ≤ c.1 ∧ c.1 ≤ ns.length ∧ trimL (ns.take c.1.toNat) = trimL ns) (fun c => c.1.toNat) (_, _) (by k_asm) (by k_asm) (by walk_at "m_binds")
    ⟨Int.natCast_nonneg _, Int.le_refl _, by dsimp only; simp⟩ ?_
  rintro ⟨many, t⟩ u h tk ⟨i1, i2, i3⟩ F N
  dsimp only at i1 i2 i3 F N ⊢
  k_steps
  · exact WEnd.intro (_, _) (by k_asm) (by k_asm) (fun _ h => nomatch h) (by walk_at "m_binds") ⟨by dsimp only; omega, by dsimp only; omega, trim_step (by assumption) i2 (by assumption) i3⟩ (by dsimp only; omega)
  · exact k _ _ _ (retL hg (by k_asm) (by k_asm) (by k_mem) (by assumption) (trim_end (by assumption) i2 (by assumption) i3))
  · exact k _ _ _ (retL hg (by k_asm) (by k_asm) (by k_mem) (by assumption) (trim_end0 (by assumption) i3))
end
set_option hygiene false in
local macro_rules | `(tactic| walk_at "call ref") => `(tactic| ((with_reducible apply c_mtrim); walk_at "m_args"; walk_at "m_new"))
set_option hygiene false in
local macro_rules | `(tactic| walk_at "call ref") => `(tactic| ((with_reducible apply c_mdegree); walk_at "m_args"; walk_at "m_int"))
section
variable {w : World} {A : Around} {base : Heap} {outer : List Env} {p : Program} {loose : List Str} {mean : ExcName → Option Value} {mg mb : Str → Option Value} {s : Shared} {Q : Value → Shared → Prop} {E : Value → Shared → Prop}

set_option maxHeartbeats 2000000 in
theorem c_madd {a b : Addr} {na nb : List Int} {q : Int} {tq : Tok} (C : Cx w A base outer p loose mean mg mb 2 s.heap) (ha : LI s.heap a na) (hb : LI s.heap b nb) (hna : na.length < 500) (hnb : nb.length < 500) (hq : 2 ≤ q ∧ q ≤ 5)
    (k : ∀ h' tk' r, RetL s.heap h' r (maddL na nb q) → Q (.ref r) { s with heap := h', toks := tk' }) : wpAny (model PG w) A (call (.ref 49) [.ref a, .ref b, .int q tq]) Q E s := by
  walk_at "m_enter"
  rw [← hg] at ha hb
  obtain ⟨va, la, ia⟩ := ha.list
  obtain ⟨vb, lb, ib⟩ := hb.list
  walk_at "m_go"
  refine m_range (σ := List Value × Nat) (max na.length nb.length) (fun c => [(l', listOf c.1.toArray c.2)]) (fun c => [(Str.ofString "found", .ref l'), (Str.ofString "a", .ref a), (Str.ofString "b", .ref b), (Str.ofString "p", .int q tq)]) (fun i c => IntsAre c.1 ((List.range i).map fun i => (na.getD i 0 + nb.getD i 0) % q)) ([], 0) rfl (by k_asm) (small_one (by omega) (by omega) (by split <;> omega) (by split <;> omega)) (by rw [rangeSize_nat]; split; exact z_mxT (by assumption); exact z_mxF (by assumption)) (by k_asm) (by k_asm) (by walk_at "m_binds") .nil ?_ ?_
  · rintro ⟨vs, n⟩ i t u h tk own hi ho hI F N
    dsimp only at hI F N ⊢
    have hz : vs.length ≤ 2000 := by rw [hI.length, List.length_map, List.length_range]; exact z_mx hi hna hnb
    rw [z_i] at F
    k_steps
    · walk_at "m_fend"
      exact snoc_range hI (by rw [fm hq, Int.toNat_natCast])
    · walk_at "m_fend"
      exact snoc_range hI (by rw [fm hq, Int.toNat_natCast, getD_over (l := nb) (by assumption)])
    · walk_at "m_fend"
      exact snoc_range hI (by rw [fm hq, Int.toNat_natCast, getD_over (l := na) (by assumption)])
  · rintro ⟨vs, n⟩ u h tk hI F N
    dsimp only at hI F N ⊢
    k_steps
    walk_at "m_ret"
    rfl
end
set_option hygiene false in
local macro_rules | `(tactic| walk_at "call ref") => `(tactic| ((with_reducible apply c_madd); walk_at "m_args"; walk_at "m_new"))
section
variable {w : World} {A : Around} {base : Heap} {outer : List Env} {p : Program} {loose : List Str} {mean : ExcName → Option Value} {mg mb : Str → Option Value} {s : Shared} {Q : Value → Shared → Prop} {E : Value → Shared → Prop}

set_option maxHeartbeats 2000000 in
theorem c_mneg {a : Addr} {na : List Int} {q : Int} {tq : Tok} (C : Cx w A base outer p loose mean mg mb 2 s.heap) (ha : LI s.heap a na) (hna : na.length < 500) (hq : 2 ≤ q ∧ q ≤ 5)
    (k : ∀ h' tk' r, RetL s.heap h' r (mnegL na q) → Q (.ref r) { s with heap := h', toks := tk' }) : wpAny (model PG w) A (call (.ref 54) [.ref a, .int q tq]) Q E s := by
  walk_at "m_enterC"
  rw [← hg] at ha
  obtain ⟨va, la, ia⟩ := ha.list
  walk_at "m_go"
  walk_at "m_ret"
  exact List.map_congr_left fun x _ => fm hq

set_option maxHeartbeats 2000000 in
theorem c_mscale {a : Addr} {na : List Int} {nu q : Int} {tn tq : Tok} (C : Cx w A base outer p loose mean mg mb 2 s.heap) (ha : LI s.heap a na) (hna : na.length < 500) (hq : 2 ≤ q ∧ q ≤ 5) (hd : Dg q na) (hnu : 0 ≤ nu ∧ nu < 5)
    (k : ∀ h' tk' r, RetL s.heap h' r (mscaleL na nu q) → Q (.ref r) { s with heap := h', toks := tk' }) : wpAny (model PG w) A (call (.ref 66) [.ref a, .int nu tn, .int q tq]) Q E s := by
  walk_at "m_enterC"
  rw [← hg] at ha
  obtain ⟨va, la, ia⟩ := ha.list
  walk_at "m_go"
  walk_at "m_ret"
  unfold mscaleL
  congr 1
  exact List.map_congr_left fun x _ => fm hq

end
set_option hygiene false in
local macro_rules | `(tactic| walk_at "call ref") => `(tactic| ((with_reducible apply c_mneg); walk_at "m_args"; walk_at "m_new"))
section
variable {w : World} {A : Around} {base : Heap} {outer : List Env} {p : Program} {loose : List Str} {mean : ExcName → Option Value} {mg mb : Str → Option Value} {s : Shared} {Q : Value → Shared → Prop} {E : Value → Shared → Prop}

set_option maxHeartbeats 2000000 in
theorem c_msub {a b : Addr} {na nb : List Int} {q : Int} {tq : Tok} (C : Cx w A base outer p loose mean mg mb 3 s.heap) (ha : LI s.heap a na) (hb : LI s.heap b nb) (hna : na.length < 500) (hnb : nb.length < 500) (hq : 2 ≤ q ∧ q ≤ 5)
    (k : ∀ h' tk' r, RetL s.heap h' r (msubL na nb q) → Q (.ref r) { s with heap := h', toks := tk' }) : wpAny (model PG w) A (call (.ref 61) [.ref a, .ref b, .int q tq]) Q E s := by
  walk_at "m_enter"
  rw [← hg] at ha hb
  have hz : (mnegL nb q).length < 500 := by unfold mnegL; rw [List.length_map]; exact hnb
  walk_at "m_go"
  walk_at "m_ret"
  rfl
end
set_option hygiene false in
local macro_rules | `(tactic| walk_at "call ref") => `(tactic| ((with_reducible apply c_mscale); walk_at "m_args"; walk_at "m_new"))
set_option hygiene false in
local macro_rules | `(tactic| walk_at "call ref") => `(tactic| ((with_reducible apply c_msub); walk_at "m_args"; walk_at "m_new"))
section
variable {w : World} {A : Around} {base : Heap} {outer : List Env} {p : Program} {loose : List Str} {mean : ExcName → Option Value} {mg mb : Str → Option Value} {s : Shared} {Q : Value → Shared → Prop} {E : Value → Shared → Prop}

set_option maxHeartbeats 2000000 in
theorem c_mmul {a b : Addr} {na nb : List Int} {q : Int} {tq : Tok} (C : Cx w A base outer p loose mean mg mb 2 s.heap) (ha : LI s.heap a na) (hb : LI s.heap b nb) (hna : na.length < 100) (hnb : nb.length < 100) (hq : 2 ≤ q ∧ q ≤ 5) (da : Dg q na) (db : Dg q nb)
    (k : ∀ h' tk' r, RetL s.heap h' r (mmulL na nb q) → Q (.ref r) { s with heap := h', toks := tk' }) : wpAny (model PG w) A (call (.ref 73) [.ref a, .ref b, .int q tq]) Q E s := by
  walk_at "m_enter"
  rw [← hg] at ha hb
  obtain ⟨va, la, ia⟩ := ha.list
  obtain ⟨vb, lb, ib⟩ := hb.list
  walk_at "m_go"
  · exact k _ _ _ (retL (vs := []) (ns := []) hg (by k_asm) (by k_asm) (by k_mem) .nil (by unfold mmulL; rw [if_pos (by omega)]))
  · exact k _ _ _ (retL (vs := []) (ns := []) hg (by k_asm) (by k_asm) (by k_mem) .nil (by unfold mmulL; rw [if_pos (by omega)]))
  refine m_enum1 [(Str.ofString "a", .ref a), (Str.ofString "b", .ref b), (Str.ofString "p", .int q tq), (Str.ofString "found", .ref D')] (fun i fs => fs = (na.zipIdx.take i).foldl (mulRow nb q) (List.replicate (na.length + nb.length - 1) 0) ∧ fs.length = na.length + nb.length - 1) (by assumption) rfl (by walk_at "m_binds") hz' ⟨by rw [z_ab1]; rfl, by rw [List.length_replicate, z_ab1]⟩ ?_ ?_
  · rintro i one vs c fs t t' u h tk own hn ho hi ⟨hI, hl⟩ F N
    simp only [List.map_nil] at ho
    have hi2 : i < na.length := (List.getElem?_eq_some_iff.mp hn).1
    have ho5 : 0 ≤ one ∧ one < q := da one (List.mem_of_getElem? hn)
    k_steps
    · refine m_enum1 [(Str.ofString "a", .ref a), (Str.ofString "b", .ref b), (Str.ofString "p", .int q tq), (Str.ofString "found", .ref D'), (Str.ofString "at", .int i t), (Str.ofString "one", .int one t')] (fun j gs => gs = (nb.zipIdx.take j).foldl (mulStep one q i) fs ∧ gs.length = na.length + nb.length - 1) (by assumption) rfl (by walk_at "m_binds") hi (by simp; omega) ?_ ?_
      · rintro j other vs c gs t2 t3 u h tk own2 hm ho2 hi ⟨hJ, hl2⟩ F N
        simp only [List.map_append, List.map_nil, List.nil_append] at ho2 N
        have hj2 : j < nb.length := (List.getElem?_eq_some_iff.mp hm).1
        k_steps
        walk_at "m_fend1"
        refine ⟨?_, by rw [List.length_set]; exact hl2⟩
        rw [foldZ _ _ hm, ← hJ, z_add, fm hq]
        rfl
      · rintro vs c gs u h tk hi ⟨hJ, hl2⟩ F N
        k_steps
        walk_at "m_fend1"
        refine ⟨?_, hl2⟩
        rw [foldZ _ _ hn, ← hI]
        exact mulRow_of (by assumption) hJ
    · walk_at "m_fend1"
      refine ⟨?_, hl⟩
      rw [foldZ _ _ hn, ← hI]
      exact mulRow_zero (by assumption)
  · rintro vs c fs u h tk hi ⟨hI, hl⟩ F N
    k_steps
    walk_at "m_ret"
    unfold mmulL
    rw [if_neg (fun e => e.elim (fun e => absurd (congrArg Int.ofNat e) (by assumption)) fun e => absurd (congrArg Int.ofNat e) (by assumption)), hI, foldZ_all]
end
set_option hygiene false in
local macro_rules | `(tactic| walk_at "call ref") => `(tactic| ((with_reducible apply c_mmul); walk_at "m_args"; walk_at "m_new"))
section
variable {w : World} {A : Around} {base : Heap} {outer : List Env} {p : Program} {loose : List Str} {mean : ExcName → Option Value} {mg mb : Str → Option Value} {s : Shared} {Q : Value → Shared → Prop} {E : Value → Shared → Prop}

set_option maxHeartbeats 2000000 in
theorem c_extended {a b : Int} {ta tb : Tok} (C : Cx w A base outer p loose mean mg mb 1 s.heap) (ha : 0 ≤ a ∧ a ≤ 5) (hb : 0 ≤ b ∧ b ≤ 5)
    (k : ∀ h' tk' r x y z t1 t2 t3, Kp s.heap h' → h'.get? r = some (tup3 x y z t1 t2 t3) → s.heap.get? r = none → x = Int.gcd a b → x = y * a + z * b → Q (.ref r) { s with heap := h', toks := tk' }) : wpAny (model PG w) A (call (.ref 21) [.int a ta, .int b tb]) Q E s := by
  walk_at "m_enter"
  walk_at "m_go"
  refine m_while (σ := XS) (fun c => [(c.A, tup3 c.x c.y c.z c.i c.j c.k), (c.B, tup3 c.u c.v c.w c.l c.m c.n)]) (fun c => [(Str.ofString "one", .ref c.A), (Str.ofString "other", .ref c.B)])
    (fun c => (0 ≤ c.x ∧ c.x ≤ 5) ∧ (0 ≤ c.u ∧ c.u ≤ 5) ∧ Int.gcd c.x c.u = Int.gcd a b ∧ c.x = c.y * a + c.z * b ∧ c.u = c.v * a + c.w * b) (fun c => c.u.toNat) ⟨_, _, a, 1, 0, b, 0, 1, _, _, _, _, _, _⟩ (by k_asm) (by walk_at "m_weak") (by walk_at "m_binds") ⟨ha, hb, rfl, by simp, by simp⟩ ?_
  rintro ⟨D1, D2, x, y, z, u, v, w', i, j, k', l, m, n⟩ u0 h tk ⟨hx, hu, hg', h1, h2⟩ F N
  dsimp only at hx hu hg' h1 h2 F N ⊢
  have hf := fdiv_small hx hu
  have H1 : Hold (x = y * a + z * b) := h1
  have H2 : Hold (u = v * a + w' * b) := h2
  clear h1 h2
  k_steps
  · have hs := ext_step hx hu (by assumption)
    exact WEnd.intro ⟨D2, _, u, v, w', _, _, _, l, m, n, _, _, _⟩ (by k_asm) (by k_asm) (by walk_at "m_sub") (by walk_at "m_binds")
      ⟨hu, ⟨hs.1, Int.le_of_lt (Int.lt_of_lt_of_le hs.2.1 hu.2)⟩, (by dsimp only; rw [hs.2.2]; exact hg'), H2, (by dsimp only; exact ext_lin H1 H2)⟩ (z_tn hs.1 hs.2.1)
  · have hz : u = 0 := by assumption
    exact k _ _ _ x y z _ _ _ (hg ▸ F.keep) (N _ (.head _)).1 (hg ▸ (N _ (.head _)).2.2) (by rw [← hg', hz, Int.gcd_zero_right]; exact (Int.natAbs_of_nonneg hx.1).symm) H1

set_option maxHeartbeats 2000000 in
theorem c_inverse {a m : Int} {ta tm : Tok} (C : Cx w A base outer p loose mean mg mb 2 s.heap) (hm : m = 2 ∨ m = 3 ∨ m = 5) (ha : 1 ≤ a ∧ a < m)
    (k : ∀ h' tk' t i, Kp s.heap h' → (0 ≤ i ∧ i < 5) → i = invL a m → Q (.int i t) { s with heap := h', toks := tk' }) : wpAny (model PG w) A (call (.ref 28) [.int a ta, .int m tm]) Q E s := by
  walk_at "m_enter"
  have hmod : a.fmod m = a := by rw [Int.fmod_eq_emod_of_nonneg a (by omega)]; exact Int.emod_eq_of_lt (by omega) (by omega)
  walk_at "m_go"
  rw [hmod]
  refine c_extended (by walk_at "m_cx") ⟨Int.le_trans (by decide) ha.1, Int.le_of_lt (Int.lt_of_lt_of_le ha.2 (q25 hm).2)⟩ ⟨Int.le_trans (by decide) (q25 hm).1, (q25 hm).2⟩ ?_
  intro h' tk' r x y z t1 t2 t3 kp hr hf hx hxy
  have F' := Fr.after (by k_asm) kp
  have N' := news_add (by k_asm) (by k_asm) kp hr hf
  clear kp hr hf
  rw [inv_gcd hm ha] at hx
  obtain rfl : x = 1 := hx
  k_steps
  refine k _ _ _ _ (hg ▸ Fr.keep (by k_asm)) ?_ (inv_spec hm ha hxy)
  rw [inv_spec hm ha hxy]
  exact inv_small hm ha
end
set_option hygiene false in
local macro_rules | `(tactic| walk_at "call ref") => `(tactic| ((with_reducible apply c_inverse); walk_at "m_args"; intro h' tk' t' turn kp' hturn eturn; walk_at "m_int2"))
structure Two where
  vq : List Value
  nq : Nat
  fq : List Int
  vr : List Value
  nr : Nat
  fr : List Int
section
variable {w : World} {A : Around} {base : Heap} {outer : List Env} {p : Program} {loose : List Str} {mean : ExcName → Option Value} {mg mb : Str → Option Value} {s : Shared} {Q : Value → Shared → Prop} {E : Value → Shared → Prop}

set_option maxHeartbeats 2000000 in
theorem c_mdivmod {a b : Addr} {na nb : List Int} {q : Int} {tq : Tok} (C : Cx w A base outer p loose mean mg mb 3 s.heap) (ha : LI s.heap a na) (hb : LI s.heap b nb) (hna : na.length < 200) (hnb : nb.length < 200) (hb0 : 0 < nb.length) (hq : q = 2 ∨ q = 3 ∨ q = 5) (hlast : 1 ≤ lastL nb ∧ lastL nb < q)
    (k : ∀ h' tk' r D1 D2, Kp s.heap h' → h'.get? r = some { cls := .type "tuple", data := .seq #[.ref D1, .ref D2] } → s.heap.get? r = none → LI h' D1 (mdivL na nb q).1 → LI h' D2 (mdivL na nb q).2 → s.heap.get? D1 = none → s.heap.get? D2 = none → Q (.ref r) { s with heap := h', toks := tk' }) : wpAny (model PG w) A (call (.ref 80) [.ref a, .ref b, .int q tq]) Q E s := by
  walk_at "m_enter"
  rw [← hg] at ha hb
  obtain ⟨va, la, ia⟩ := ha.list
  obtain ⟨vb, lb, ib⟩ := hb.list
  have hq5 : 2 ≤ q ∧ q ≤ 5 := by first | exact q25 hq | omega
  have elast : nb.getD (-1 + (nb.length : Int)).toNat 0 = lastL nb := last_neg hb0
  have hlast' : 1 ≤ nb.getD (-1 + (nb.length : Int)).toNat 0 ∧ nb.getD (-1 + (nb.length : Int)).toNat 0 < q := by rw [elast]; exact hlast
  walk_at "m_go"
  rw [elast] at eturn
  have hz'' : IntsAre ws' (List.replicate (na.length + 1 - nb.length) 0) := by
    rw [← z_ife na.length nb.length]
    exact hz'
  refine m_range (σ := Two) (na.length + 1 - nb.length) (fun c => [(Dl, listOf c.vr.toArray c.nr), (D', listOf c.vq.toArray c.nq)]) (fun c => [(Str.ofString "rest", .ref Dl), (Str.ofString "quotient", .ref D'), (Str.ofString "a", .ref a), (Str.ofString "b", .ref b), (Str.ofString "p", .int q tq), (Str.ofString "turn", .int turn t')])
    (fun i c => IntsAre c.vq c.fq ∧ IntsAre c.vr c.fr ∧ (c.fq, c.fr) = divGo na nb q turn i ∧ c.fq.length = na.length + 1 - nb.length ∧ c.fr.length = na.length) ⟨_, _, List.replicate (na.length + 1 - nb.length) 0, _, _, na⟩ rfl (by k_asm) (small_down (by omega) (by omega) (by decide) (by decide)) (by rw [rangeSize_downNat]; exact z_dn _ _) (by k_asm) (by walk_at "m_weak") (by walk_at "m_binds") ⟨hz'', ia, rfl, by simp, rfl⟩ ?_ ?_
  · rintro ⟨vq, nq, fq, vr, nr, fr⟩ i t u h tk own hi ho ⟨hvq, hvr, hgo, hlq, hlr⟩ F N
    dsimp only at hvq hvr hgo hlq hlr F N ⊢
    simp only [List.map_cons, List.map_nil] at ho
    obtain ⟨at', hat⟩ : ∃ k : Nat, k = na.length - nb.length - i := ⟨_, rfl⟩
    have hs := z_at hi hat
    have hs2 := z_at2 hi hlq
    have Hat : Hold (at' = na.length - nb.length - i) := hat
    have Hlq : Hold (fq.length = na.length + 1 - nb.length) := hlq
    clear hat hlq
    rw [show ((na.length : Int) - nb.length + (i : Int) * -1) = ((at' : Nat) : Int) by omega] at F
    have hnum : 0 ≤ (fr.getD ((at' : Int) + (nb.length : Int) - 1).toNat 0 * turn).fmod q ∧ (fr.getD ((at' : Int) + (nb.length : Int) - 1).toNat 0 * turn).fmod q < 5 := by
      rw [fm hq5]; exact ⟨Int.emod_nonneg _ (by omega), Int.lt_of_lt_of_le (Int.emod_lt_of_pos _ (by omega)) hq5.2⟩
    k_steps
    · generalize hX : (fr.getD ((at' : Int) + (nb.length : Int) - 1).toNat 0 * turn).fmod q = X at *
      have HX : Hold (X = divNum nb q turn at' fr) := by
        show X = _
        rw [← hX, fm hq5, z_ab1]; rfl
      clear hX
      refine m_enum1 [(Str.ofString "rest", .ref Dl), (Str.ofString "quotient", .ref D'), (Str.ofString "a", .ref a), (Str.ofString "b", .ref b), (Str.ofString "p", .int q tq), (Str.ofString "turn", .int turn t'), (Str.ofString "at", .int (at' : Int) t), (Str.ofString "number", .int X _)] (fun j gs => gs = (nb.zipIdx.take j).foldl (subStep X q at') fr ∧ gs.length = na.length) (by assumption) rfl (by walk_at "m_binds") hvr ⟨rfl, hlr⟩ ?_ ?_
      · rintro j other vs c gs t2 t3 u h tk own2 hm ho2 hi ⟨hJ, hl2⟩ F N
        simp only [List.map_cons, List.map_nil, List.nil_append, List.cons_append] at ho2 N
        have hj2 : j < nb.length := (List.getElem?_eq_some_iff.mp hm).1
        k_steps
        walk_at "m_fend1"
        refine ⟨?_, by rw [List.length_set]; exact hl2⟩
        rw [foldZ _ _ hm, ← hJ, z_add, fm hq5]
        rfl
      · rintro vs c gs u h tk hi ⟨hJ, hl2⟩ F N
        k_steps
        refine FEnd.intro ⟨_, _, fq.set at' X, _, _, gs⟩ (by k_asm) (by k_asm) (by walk_at "m_sub") (by walk_at "m_sub") (by exact rfl) (by walk_at "m_binds") ?_
        exact ⟨by assumption, hi, div_turn hgo Hat HX (by assumption) hJ, by dsimp only; rw [List.length_set]; exact Hlq, hl2⟩
    · generalize hX : (fr.getD ((at' : Int) + (nb.length : Int) - 1).toNat 0 * turn).fmod q = X at *
      have HX : Hold (X = divNum nb q turn at' fr) := by
        show X = _
        rw [← hX, fm hq5, z_ab1]; rfl
      clear hX
      refine FEnd.intro ⟨_, _, fq.set at' X, _, _, fr⟩ (by k_asm) (by k_asm) (by walk_at "m_sub") (by walk_at "m_sub") (by exact rfl) (by walk_at "m_binds") ?_
      exact ⟨by assumption, hvr, div_turn0 hgo Hat HX (by assumption), by dsimp only; rw [List.length_set]; exact Hlq, hlr⟩
  · rintro ⟨vq, nq, fq, vr, nr, fr⟩ u h tk ⟨hvq, hvr, hgo, hlq, hlr⟩ F N
    dsimp only at hvq hvr hgo hlq hlr F N ⊢
    have hres : mdivL na nb q = (trimL fq, trimL (fr.take ((nb.length : Int) - 1).toNat)) := by
      unfold mdivL
      rw [← eturn, ← hgo, z_pred]
    k_steps
    rename News _ _ _ _ => NN
    rename Fr _ _ _ _ => FF
    exact k _ _ _ _ _ (hg ▸ FF.keep) (NN _ (.head _)).1 (hg ▸ (NN _ (.head _)).2.2) (by rw [hres]; exact LI.news NN (by k_mem) (by assumption)) (by rw [hres]; exact LI.news NN (by k_mem) (by assumption)) (hg ▸ (NN _ (.tail _ (.tail _ (.tail _ (.head _))))).2.2) (hg ▸ (NN _ (.tail _ (.head _))).2.2)
end
set_option hygiene false in
local macro_rules | `(tactic| walk_at "call ref") => `(tactic| ((with_reducible apply c_mdivmod); walk_at "m_args"; intro h' tk' r' D1 D2 kp' hr' fr' l1' l2' f1' f2'; obtain ⟨v1', n1', e1', i1'⟩ := l1'; obtain ⟨v2', n2', e2', i2'⟩ := l2'; have F' := Fr.after (by k_asm) kp'; have N' := news_add2 (by k_asm) (by k_asm) kp' hr' fr' e1' f1' e2' f2'; clear kp' hr' fr' e1' f1' e2' f2'; k_sweep; (try dsimp only)))
structure GS where
  led : List (Addr × Obj)
  a : Addr
  b : Addr
  x : List Int
  y : List Int
section
variable {w : World} {A : Around} {base : Heap} {outer : List Env} {p : Program} {loose : List Str} {mean : ExcName → Option Value} {mg mb : Str → Option Value} {s : Shared} {Q : Value → Shared → Prop} {E : Value → Shared → Prop}

set_option maxHeartbeats 2000000 in
theorem c_mrest {a b : Addr} {na nb : List Int} {q : Int} {tq : Tok} (C : Cx w A base outer p loose mean mg mb 4 s.heap) (ha : LI s.heap a na) (hb : LI s.heap b nb) (hna : na.length < 200) (hnb : nb.length < 200) (hb0 : 0 < nb.length) (hq : q = 2 ∨ q = 3 ∨ q = 5) (hlast : 1 ≤ lastL nb ∧ lastL nb < q)
    (k : ∀ h' tk' r, RetL s.heap h' r (mrestL na nb q) → Q (.ref r) { s with heap := h', toks := tk' }) : wpAny (model PG w) A (call (.ref 87) [.ref a, .ref b, .int q tq]) Q E s := by
  walk_at "m_enter"
  rw [← hg] at ha hb
  walk_at "m_go"
  walk_at "m_ret"
  rfl
set_option maxHeartbeats 2000000 in
theorem c_mquotient {a b : Addr} {na nb : List Int} {q : Int} {tq : Tok} (C : Cx w A base outer p loose mean mg mb 4 s.heap) (ha : LI s.heap a na) (hb : LI s.heap b nb) (hna : na.length < 200) (hnb : nb.length < 200) (hb0 : 0 < nb.length) (hq : q = 2 ∨ q = 3 ∨ q = 5) (hlast : 1 ≤ lastL nb ∧ lastL nb < q)
    (k : ∀ h' tk' r, RetL s.heap h' r (mquoL na nb q) → Q (.ref r) { s with heap := h', toks := tk' }) : wpAny (model PG w) A (call (.ref 94) [.ref a, .ref b, .int q tq]) Q E s := by
  walk_at "m_enter"
  rw [← hg] at ha hb
  walk_at "m_go"
  walk_at "m_ret"
  rfl
set_option maxHeartbeats 2000000 in
theorem c_mmonic {a : Addr} {na : List Int} {q : Int} {tq : Tok} (C : Cx w A base outer p loose mean mg mb 3 s.heap) (ha : LI s.heap a na) (hna : na.length < 200) (hq : q = 2 ∨ q = 3 ∨ q = 5) (hpo : Po q na)
    (k : ∀ h' tk' r, RetL s.heap h' r (mmonicL na q) → Q (.ref r) { s with heap := h', toks := tk' }) : wpAny (model PG w) A (call (.ref 101) [.ref a, .int q tq]) Q E s := by
  walk_at "m_enter"
  rw [← hg] at ha
  obtain ⟨va, la, ia⟩ := ha.list
  have hq5 : 2 ≤ q ∧ q ≤ 5 := by first | exact q25 hq | omega
  have hd : Dg q na := hpo.1
  have elast : na.getD (-1 + (na.length : Int)).toNat 0 = lastL na := by unfold lastL; rw [z_pred']
  walk_at "m_go"
  · rw [elast]
    have hl := hpo.last (ne_of_len (by assumption))
    k_steps
    walk_at "m_ret"
    unfold mmonicL
    rw [if_pos (Int.ofNat_lt.mp (by assumption)), ← eturn]
  · exact k _ _ _ (retL (vs := []) (ns := []) hg (by k_asm) (by k_asm) (by k_mem) .nil (by unfold mmonicL; rw [if_neg fun e => absurd (Int.ofNat_lt.mpr e) (by assumption)]))

end
set_option hygiene false in
local macro_rules | `(tactic| walk_at "call ref") => `(tactic| ((with_reducible apply c_mrest); walk_at "m_args"; walk_at "m_new"))
section
variable {w : World} {A : Around} {base : Heap} {outer : List Env} {p : Program} {loose : List Str} {mean : ExcName → Option Value} {mg mb : Str → Option Value} {s : Shared} {Q : Value → Shared → Prop} {E : Value → Shared → Prop}
end
set_option hygiene false in
local macro_rules | `(tactic| walk_at "call ref") => `(tactic| ((with_reducible apply c_mmonic); walk_at "m_args"; walk_at "m_new"))
section
variable {w : World} {A : Around} {base : Heap} {outer : List Env} {p : Program} {loose : List Str} {mean : ExcName → Option Value} {mg mb : Str → Option Value} {s : Shared} {Q : Value → Shared → Prop} {E : Value → Shared → Prop}

set_option maxHeartbeats 2000000 in
theorem c_mgcd {a b : Addr} {na nb : List Int} {q : Int} {tq : Tok} (C : Cx w A base outer p loose mean mg mb 5 s.heap) (ha : LI s.heap a na) (hb : LI s.heap b nb) (hna : na.length < 200) (hnb : nb.length < 200) (hq : q = 2 ∨ q = 3 ∨ q = 5) (pa : Po q na) (pb : Po q nb)
    (k : ∀ h' tk' r, RetL s.heap h' r (mgcdL na nb q) → Q (.ref r) { s with heap := h', toks := tk' }) : wpAny (model PG w) A (call (.ref 122) [.ref a, .ref b, .int q tq]) Q E s := by
  walk_at "m_enter"
  rw [← hg] at ha hb
  walk_at "m_go"
  refine m_while (σ := GS) (fun c => c.led) (fun c => [(Str.ofString "a", .ref c.a), (Str.ofString "b", .ref c.b), (Str.ofString "p", .int q tq)])
    (fun c => LX g c.led c.a c.x ∧ LX g c.led c.b c.y ∧ Po q c.x ∧ Po q c.y ∧ c.x.length < 200 ∧ c.y.length < 200 ∧ gcdGo q (c.y.length + 1) c.x c.y = gcdGo q (nb.length + 1) na nb) (fun c => c.y.length) ⟨[], a, b, na, nb⟩ (by k_asm) (by k_asm) (by walk_at "m_binds") ⟨.base ha, .base hb, pa, pb, hna, hnb, rfl⟩ ?_
  rintro ⟨led, a', b', x, y⟩ u h tk ⟨hx, hy, px, py, lx, ly, hgo⟩ F N
  dsimp only at hx hy px py lx ly hgo F N ⊢
  k_steps
  · have hl := py.last (ne_of_len (by assumption))
    have hy0 : 0 < y.length := by omega
    k_steps
    exact WEnd.intro ⟨(r', listOf vs'.toArray n') :: led, b', r', y, mrestL x y q⟩ (by k_asm) (by k_asm) (by walk_at "m_sub") (by walk_at "m_binds")
      ⟨hy.mono (fun p hp => .tail _ hp), .led (.head _) hi', py, mrestL_po (by omega) px.1, ly, Nat.lt_of_le_of_lt mrestL_len (by omega), by dsimp only; rw [← gcd_turn hy0]; exact hgo⟩ (by dsimp only; exact Nat.lt_of_le_of_lt mrestL_len (by omega))
  · have hy0 : y.length = 0 := by omega
    rw [gcd_end hy0] at hgo
    k_steps
    walk_at "m_ret"
    unfold mgcdL
    rw [← hgo]
end
set_option hygiene false in
local macro_rules | `(tactic| walk_at "call ref") => `(tactic| ((with_reducible apply c_mquotient); walk_at "m_args"; walk_at "m_new"))
set_option hygiene false in
local macro_rules | `(tactic| walk_at "call ref") => `(tactic| ((with_reducible apply c_mgcd); walk_at "m_args"; walk_at "m_new"))
structure PS where
  led : List (Addr × Obj)
  n : Int
  t : Tok
  a : Addr
  b : Addr
  x : List Int
  y : List Int
section
variable {w : World} {A : Around} {base : Heap} {outer : List Env} {p : Program} {loose : List Str} {mean : ExcName → Option Value} {mg mb : Str → Option Value} {s : Shared} {Q : Value → Shared → Prop} {E : Value → Shared → Prop}

set_option maxHeartbeats 2000000 in
theorem c_mpower {a f : Addr} {na nf : List Int} {e : Nat} {q : Int} {tq te : Tok} (C : Cx w A base outer p loose mean mg mb 5 s.heap) (ha : LI s.heap a na) (hf : LI s.heap f nf) (hna : na.length < 100) (hnf : nf.length < 50) (hf0 : 0 < nf.length) (he : e < 100) (hq : q = 2 ∨ q = 3 ∨ q = 5) (pa : Po q na) (pf : Po q nf)
    (k : ∀ h' tk' r, RetL s.heap h' r (mpowL na e nf q) → Q (.ref r) { s with heap := h', toks := tk' }) : wpAny (model PG w) A (call (.ref 108) [.ref a, .int e te, .ref f, .int q tq]) Q E s := by
  walk_at "m_enter"
  rw [← hg] at ha hf
  have hq5 : 2 ≤ q ∧ q ≤ 5 := by first | exact q25 hq | omega
  have hlast := pf.last (ne_of_len (by omega))
  have hl1 : (mrestL [1] nf q).length ≤ nf.length - 1 := mrestL_len
  have hl2 : (mrestL na nf q).length ≤ nf.length - 1 := mrestL_len
  walk_at "m_go"
  refine m_while (σ := PS) (fun c => c.led) (fun c => [(Str.ofString "found", .ref c.a), (Str.ofString "square", .ref c.b), (Str.ofString "n", .int c.n c.t), (Str.ofString "f", .ref f), (Str.ofString "p", .int q tq)])
    (fun c => LD c.led c.a c.x ∧ LX g c.led c.b c.y ∧ Po q c.x ∧ Po q c.y ∧ c.x.length ≤ nf.length - 1 ∧ c.y.length ≤ nf.length - 1 ∧ powGo nf q (c.n.toNat + 1) c.n.toNat c.x c.y = mpowL na e nf q ∧ 0 ≤ c.n) (fun c => c.n.toNat) ⟨_, (e : Int), _, _, _, _, _⟩ (by k_asm) (by k_asm) (by walk_at "m_binds") ⟨.mk (by k_mem) (by assumption), .led (by k_mem) (by assumption), mrestL_po (z_q0 hq5) (one_po hq5.1).1, mrestL_po (z_q0 hq5) pa.1, hl1, hl2, rfl, Int.natCast_nonneg _⟩ ?_
  rintro ⟨led, n, t, a', b', x, y⟩ u h tk ⟨hx, hy, px, py, lx, ly, hgo, hn0⟩ F N
  dsimp only at hx hy px py lx ly hgo hn0 F N ⊢
  have hx2 : LX g led a' x := hx.lx
  have lx5 := z_l1 lx hnf
  have ly5 := z_l1 ly hnf
  have hm1 : (mmulL x y q).length < 100 := z_l2 mmulL_len lx5 ly5
  have hm2 : (mmulL y y q).length < 100 := z_l2 mmulL_len ly5 ly5
  have dx := px.1
  have dy := py.1
  k_steps
  · have h0 : 0 < n := by assumption
    have hd := fdiv2 h0
    exact WEnd.intro ⟨_, n.fdiv 2, _, _, _, mrestL (mmulL x y q) nf q, sqL nf q y⟩ (by k_asm) (by k_asm) (by walk_at "m_sub") (by walk_at "m_binds")
      ⟨.mk (by k_mem) (by assumption), .led (by k_mem) (by assumption), mrestL_po (z_q0 hq5) (mmulL_po (z_q0 hq5)).1, sqL_po (z_q0 hq5), mrestL_len, sqL_len, pow_case h0 hgo (by rw [if_pos (odd_of h0 (by assumption))]) (by rw [if_pos (pos_of h0 (by assumption))]), hd.2.1⟩ (fdiv_dec h0)
  · have h0 : 0 < n := by assumption
    have hd := fdiv2 h0
    exact WEnd.intro ⟨_, n.fdiv 2, _, _, _, mrestL (mmulL x y q) nf q, y⟩ (by k_asm) (by k_asm) (by walk_at "m_sub") (by walk_at "m_binds")
      ⟨.mk (by k_mem) (by assumption), hy.mono (by walk_at "m_sub"), mrestL_po (z_q0 hq5) (mmulL_po (z_q0 hq5)).1, py, mrestL_len, ly, pow_case h0 hgo (by rw [if_pos (odd_of h0 (by assumption))]) (by rw [if_neg (npos_of h0 (by assumption))]), hd.2.1⟩ (fdiv_dec h0)
  · have h0 : 0 < n := by assumption
    have hd := fdiv2 h0
    exact WEnd.intro ⟨_, n.fdiv 2, _, _, _, x, sqL nf q y⟩ (by k_asm) (by k_asm) (by walk_at "m_sub") (by walk_at "m_binds")
      ⟨hx.mono (by walk_at "m_sub"), .led (by k_mem) (by assumption), px, sqL_po (z_q0 hq5), lx, sqL_len, pow_case h0 hgo (by rw [if_neg (even_of h0 (by assumption))]) (by rw [if_pos (pos_even h0 (by assumption))]), hd.2.1⟩ (fdiv_dec h0)
  · exact k _ _ _ (hx.ret hg (by k_asm) (by k_asm) (by walk_at "m_sub") (by rw [← hgo, pow_zero (by assumption)]))
end
set_option hygiene false in
local macro_rules | `(tactic| walk_at "call ref") => `(tactic| ((with_reducible apply c_mpower); walk_at "m_args"; walk_at "m_new"))
structure TS where
  led : List (Addr × Obj)
  a : Addr
  b : Addr
section
variable {w : World} {A : Around} {base : Heap} {outer : List Env} {p : Program} {loose : List Str} {mean : ExcName → Option Value} {mg mb : Str → Option Value} {s : Shared} {Q : Value → Shared → Prop} {E : Value → Shared → Prop}

set_option maxHeartbeats 2000000 in
theorem c_trace {a f : Addr} {na nf : List Int} {e : Nat} {q : Int} {tq te : Tok} (C : Cx w A base outer p loose mean mg mb 5 s.heap) (ha : LI s.heap a na) (hf : LI s.heap f nf) (hna : na.length < 100) (hnf : nf.length < 50) (hf0 : 0 < nf.length) (he : e < 100) (hq : q = 2 ∨ q = 3 ∨ q = 5) (pa : Po q na) (pf : Po q nf)
    (k : ∀ h' tk' r, RetL s.heap h' r (traceL na e nf q) → Q (.ref r) { s with heap := h', toks := tk' }) : wpAny (model PG w) A (call (.ref 129) [.ref a, .int e te, .ref f, .int q tq]) Q E s := by
  walk_at "m_enter"
  rw [← hg] at ha hf
  have hq5 : 2 ≤ q ∧ q ≤ 5 := by first | exact q25 hq | omega
  have hlast := pf.last (ne_of_len (by omega))
  have hpo := fun i => trGo_po (f := nf) (p := q) (z_q0 hq5) pa.1 i
  walk_at "m_go"
  refine m_rangeG (σ := TS) e (fun c => c.led) (fun c => [(Str.ofString "found", .ref c.a), (Str.ofString "square", .ref c.b), (Str.ofString "f", .ref f), (Str.ofString "p", .int q tq)])
    (fun i c => LD c.led c.a (trGo na nf q i).1 ∧ LD c.led c.b (trGo na nf q i).2) ⟨[(r', listOf vs'.toArray n'), (l', listOf #[] 0)], _, _⟩ rfl (by k_asm) (small_one (by omega) (by omega) (by omega) (by omega)) (by rw [rangeSize_nat]; exact z_e0 _) (by k_asm) (by walk_at "m_weak") (by intro p hp; rcases List.mem_cons.mp hp with rfl | hp; simp; rw [List.mem_singleton.mp hp]; simp) (by walk_at "m_binds") ⟨.mk (vs := []) (by k_mem) .nil, .mk (by k_mem) (by assumption)⟩ ?_ ?_
  · rintro ⟨led, a', b'⟩ i t u h tk own hi ⟨hx, hy⟩ hcls F N
    dsimp only at hx hy hcls F N ⊢
    have hx2 : LX g led a' _ := hx.lx
    have hy2 : LX g led b' _ := hy.lx
    have px := hpo i
    have dy := px.2.1.1
    have l1 := z_l1 px.2.2.1 hnf
    have l2 := z_l1 px.2.2.2 hnf
    have hm2 : (mmulL (trGo na nf q i).2 (trGo na nf q i).2 q).length < 100 := z_l2 mmulL_len l2 l2
    k_steps
    rename_i h3 tk1 ra vsa na' hia h2 h1 tk2 rm vsm nm him h0 F0 N0
    exact GEnd.intro ⟨(r', listOf vs'.toArray n') :: (ra, listOf vsa.toArray na') :: led, _, _⟩ (by k_asm) (by k_asm) (by walk_at "m_sub") (by walk_at "m_sub")
      (by intro p hp; rcases List.mem_cons.mp hp with rfl | hp; simp; rcases List.mem_cons.mp hp with rfl | hp; simp; exact hcls p hp) (by walk_at "m_binds")
      ⟨.mk (.tail _ (.head _)) hia, .mk (.head _) hi'⟩
  · rintro ⟨led, a', b'⟩ u h tk ⟨hx, hy⟩ F N
    dsimp only at hx hy F N ⊢
    k_steps
    exact k _ _ _ (hx.ret hg (by k_asm) (by k_asm) (by walk_at "m_sub") rfl)
end
set_option hygiene false in
local macro_rules | `(tactic| walk_at "call ref") => `(tactic| ((with_reducible apply c_trace); walk_at "m_args"; walk_at "m_new"))
section
variable {w : World} {A : Around} {base : Heap} {outer : List Env} {p : Program} {loose : List Str} {mean : ExcName → Option Value} {mg mb : Str → Option Value} {s : Shared} {Q : Value → Shared → Prop} {E : Value → Shared → Prop}

set_option maxHeartbeats 2000000 in
theorem c_counted {e : Nat} {q : Int} {tq te : Tok} (C : Cx w A base outer p loose mean mg mb 2 s.heap) (he : e < 1000) (hq : q = 2 ∨ q = 3 ∨ q = 5)
    (k : ∀ h' tk' r, RetL s.heap h' r (countedL e q) → Q (.ref r) { s with heap := h', toks := tk' }) : wpAny (model PG w) A (call (.ref 164) [.int e te, .int q tq]) Q E s := by
  walk_at "m_enter"
  have hq5 : 2 ≤ q ∧ q ≤ 5 := by first | exact q25 hq | omega
  walk_at "m_go"
  refine m_while (σ := List Value × Nat × List Int × Int × Tok) (fun c => [(l', listOf c.1.toArray c.2.1)]) (fun c => [(Str.ofString "found", .ref l'), (Str.ofString "number", .int c.2.2.2.1 c.2.2.2.2), (Str.ofString "p", .int q tq)])
    (fun c => IntsAre c.1 c.2.2.1 ∧ 0 ≤ c.2.2.2.1 ∧ c.2.2.1.length + c.2.2.2.1.toNat ≤ e ∧ c.2.2.1 ++ cntGo q c.2.2.2.1.toNat c.2.2.2.1.toNat = cntGo q e e) (fun c => c.2.2.2.1.toNat) ⟨[], _, [], (e : Int), _⟩ (by k_asm) (by k_asm) (by walk_at "m_binds") ⟨.nil, Int.natCast_nonneg _, by simp, by simp⟩ ?_
  rintro ⟨vs, c, fs, n, t⟩ u h tk ⟨hi, hn0, hle, hgo⟩ F N
  dsimp only at hi hn0 hle hgo F N ⊢
  have hz : vs.length ≤ 2000 := by rw [hi.length]; omega
  k_steps
  · exact WEnd.intro (_, _, fs ++ [n % q], n.fdiv q, _) (by k_asm) (by k_asm) (by walk_at "m_sub") (by walk_at "m_binds")
      ⟨by dsimp only; rw [← fm hq5]; exact ksk_snoc hi, by dsimp only; rw [fd hq5]; exact Int.ediv_nonneg hn0 (by omega), by dsimp only; rw [fd hq5]; exact cnt_len hq5.1 (by assumption) hle, by dsimp only; rw [fd hq5, List.append_assoc, ← hgo, cnt_turn (n := n) hq5.1 (by assumption)]; rfl⟩ (by dsimp only; rw [fd hq5]; exact cnt_less hq5.1 (by assumption))
  · walk_at "m_ret"
    have hz0 : n.toNat = 0 := by omega
    rw [hz0] at hgo
    unfold countedL
    rw [← hgo]
    simp [cntGo]

set_option maxHeartbeats 2000000 in
theorem c_cut {a : Addr} {na : List Int} (C : Cx w A base outer p loose mean mg mb 10 s.heap) (ha : LI s.heap a na) (hna : na.length < 1000)
    (k : ∀ h' tk' r, RetL s.heap h' r (trimL na) → Q (.ref r) { s with heap := h', toks := tk' }) : wpAny (model PG w) A (call (.ref 183) [.ref a]) Q E s := by
  walk_at "m_enter"
  rw [← hg] at ha
  obtain ⟨va, la, ia⟩ := ha.list
  walk_at "m_go"
  refine m_while (σ := List Value × Nat × List Int) (fun c => [(Dl, listOf c.1.toArray c.2.1)]) (fun c => [(Str.ofString "found", .ref Dl)])
    (fun c => IntsAre c.1 c.2.2 ∧ c.2.2.length ≤ na.length ∧ trimL c.2.2 = trimL na) (fun c => c.2.2.length) ⟨_, _, na⟩ (by k_asm) (by k_asm) (by walk_at "m_binds") ⟨ia, Nat.le_refl _, rfl⟩ ?_
  rintro ⟨vs, c, fs⟩ u h tk ⟨hi, hle, hgo⟩ F N
  dsimp only at hi hle hgo F N ⊢
  have hvl := hi.length
  rcases Nat.eq_zero_or_pos fs.length with hl0 | hl0
  · obtain rfl : fs = [] := List.length_eq_zero_iff.mp hl0
    k_steps
    exact k _ _ _ (retL hg (by k_asm) (by k_asm) (by k_mem) hi (by rw [← hgo]; rfl))
  · have hln := last_neg hl0
    have hne : fs ≠ [] := List.length_pos_iff.mp hl0
    k_steps
    · have hz : lastL fs = 0 := by rw [← hln]; assumption
      exact WEnd.intro (_, _, fs.dropLast) (by k_asm) (by k_asm) (by walk_at "m_sub") (by walk_at "m_binds") ⟨by assumption, by dsimp only; rw [List.length_dropLast]; omega, by dsimp only; rw [cut_turn hl0 hz]; exact hgo⟩ (by dsimp only; rw [List.length_dropLast]; omega)
    · have hz : lastL fs ≠ 0 := by rw [← hln]; assumption
      exact k _ _ _ (retL hg (by k_asm) (by k_asm) (by k_mem) hi (by rw [← hgo, cut_end hl0 hz]))

set_option maxHeartbeats 2000000 in
theorem c_lcounted {e m : Nat} {q : Int} {tq te tm : Tok} (C : Cx w A base outer p loose mean mg mb 1 s.heap) (he : e < 1000) (hm : m < 10) (hq : q = 2 ∨ q = 3 ∨ q = 5)
    (k : ∀ h' tk' r, RetL s.heap h' r (lcntL e m q) → Q (.ref r) { s with heap := h', toks := tk' }) : wpAny (model PG w) A (call (.ref 202) [.int e te, .int m tm, .int q tq]) Q E s := by
  walk_at "m_enter"
  have hq5 : 2 ≤ q ∧ q ≤ 5 := by first | exact q25 hq | omega
  walk_at "m_go"
  refine m_range (σ := List Value × Nat × Int × Tok) m (fun c => [(l', listOf c.1.toArray c.2.1)]) (fun c => [(Str.ofString "found", .ref l'), (Str.ofString "number", .int c.2.2.1 c.2.2.2), (Str.ofString "p", .int q tq)])
    (fun i c => IntsAre c.1 (lcGo q i e) ∧ c.2.2.1 = lcNum q i e) ([], _, (e : Int), _) rfl (by k_asm) (small_one (by omega) (by omega) (by omega) (by omega)) (by rw [rangeSize_nat]; exact z_e0 _) (by k_asm) (by k_asm) (by walk_at "m_binds") ⟨.nil, rfl⟩ ?_ ?_
  · rintro ⟨vs, c, n, t⟩ i t2 u h tk own hi ho ⟨hv, hn⟩ F N
    dsimp only at hv hn ho F N ⊢
    simp only [List.map_cons, List.map_nil] at ho
    have hz : vs.length ≤ 2000 := by rw [hv.length, lcGo_len]; omega
    k_steps
    refine FEnd.intro (_, _, n.fdiv q, _) (by k_asm) (by k_asm) (by walk_at "m_sub") (by walk_at "m_sub") (by exact rfl) (by walk_at "m_binds") ?_
    exact ⟨by dsimp only; rw [fm hq5, hn]; exact ksk_snoc hv, by dsimp only; rw [fd hq5, hn]; rfl⟩
  · rintro ⟨vs, c, n, t⟩ u h tk ⟨hv, hn⟩ F N
    dsimp only at hv hn F N ⊢
    have hvl : (lcGo q m e).length = m := lcGo_len q e m
    k_steps
    walk_at "m_ret"
    rfl
end
set_option hygiene false in
local macro_rules | `(tactic| walk_at "call ref") => `(tactic| ((with_reducible apply c_counted); walk_at "m_args"; walk_at "m_new"))
set_option hygiene false in
local macro_rules | `(tactic| walk_at "call ref") => `(tactic| ((with_reducible apply c_cut); walk_at "m_args"; walk_at "m_new"))
set_option hygiene false in
local macro_rules | `(tactic| walk_at "call ref") => `(tactic| ((with_reducible apply c_lcounted); walk_at "m_args"; walk_at "m_new"))
section
variable {w : World} {A : Around} {base : Heap} {outer : List Env} {p : Program} {loose : List Str} {mean : ExcName → Option Value} {mg mb : Str → Option Value} {s : Shared} {Q : Value → Shared → Prop} {E : Value → Shared → Prop}

set_option maxHeartbeats 2000000 in
theorem c_splitp {a f : Addr} {na nf : List Int} {m : Nat} {q : Int} {tq tm : Tok} (C : Cx w A base outer p loose mean mg mb 6 s.heap) (ha : LI s.heap a na) (hf : LI s.heap f nf) (hna : na.length < 100) (hnf : nf.length < 50) (hf0 : 0 < nf.length) (hm : m = 1 ∨ m = 2 ∨ (m = 3 ∧ q = 2)) (hq : q = 2 ∨ q = 3 ∨ q = 5) (pa : Po q na) (pf : Po q nf)
    (k : ∀ h' tk' r, RetL s.heap h' r (splitPL na m nf q) → Q (.ref r) { s with heap := h', toks := tk' }) : wpAny (model PG w) A (call (.ref 136) [.ref a, .int m tm, .ref f, .int q tq]) Q E s := by
  walk_at "m_enter"
  rw [← hg] at ha hf
  have hq5 : 2 ≤ q ∧ q ≤ 5 := by first | exact q25 hq | omega
  have hm100 : m < 100 := Nat.lt_of_le_of_lt (m3 hm) (by decide)
  rcases hq with rfl | hq3
  · have hq : (2 : Int) = 2 ∨ (2 : Int) = 3 ∨ (2 : Int) = 5 := .inl rfl
    have hl : (traceL na m nf 2).length < 500 := by have := (trGo_po (f := nf) (p := 2) (by decide) pa.1 m).2.2.1; unfold traceL; exact Nat.lt_trans (z_l1 this hnf) (by decide)
    walk_at "m_go"
    walk_at "m_ret"
    unfold splitPL
    rw [if_pos rfl]
  · have hq : q = 2 ∨ q = 3 ∨ q = 5 := .inr hq3
    have hl : (mpowL na (halfE m q) nf q).length < 500 := by have : (mpowL na (halfE m q) nf q).length ≤ nf.length - 1 := mpowL_len (a := na) (n := 0) _ _ _ _ mrestL_len; exact Nat.lt_trans (z_l1 this hnf) (by decide)
    walk_at "m_go"
    · have h2 : q = 2 := by assumption
      omega
    · have hh := half_eq hq3 hm
      rw [hh.1]
      have he := hh.2
      k_steps
      walk_at "m_ret"
      unfold splitPL
      rw [if_neg (by omega)]

set_option hygiene false in
local macro_rules | `(tactic| walk_at "call ref") => `(tactic| ((with_reducible apply c_splitp); walk_at "m_args"; walk_at "m_new"))

set_option maxHeartbeats 2000000 in
theorem c_splito {a f : Addr} {na nf : List Int} {m : Nat} {q : Int} {tq tm : Tok} (C : Cx w A base outer p loose mean mg mb 7 s.heap) (ha : LI s.heap a na) (hf : LI s.heap f nf) (hna : na.length < 100) (hnf : nf.length < 50) (hf0 : 0 < nf.length) (hm : m = 1 ∨ m = 2 ∨ (m = 3 ∧ q = 2)) (hq : q = 2 ∨ q = 3 ∨ q = 5) (pa : Po q na) (pf : Po q nf)
    (k1 : ∀ h' tk' r x, splitOL nf m na q = some x → RetL s.heap h' r x → Q (.ref r) { s with heap := h', toks := tk' })
    (k2 : ∀ h' tk', splitOL nf m na q = none → Kp s.heap h' → Q .none { s with heap := h', toks := tk' }) : wpAny (model PG w) A (call (.ref 143) [.ref f, .int m tm, .ref a, .int q tq]) Q E s := by
  walk_at "m_enter"
  rw [← hg] at ha hf
  have hq5 : 2 ≤ q ∧ q ≤ 5 := by first | exact q25 hq | omega
  have psp : Po q (splitPL na m nf q) := splitPL_po (by omega)
  have lsp : (splitPL na m nf q).length < 200 := by have := splitPL_len (f := nf) (m := m) (p := q) (by omega) pa.1; omega
  have lg1 : (mgcdL na nf q).length < 1000 := mgcdL_len (by omega) (by omega)
  have lg2 : (mgcdL (splitPL na m nf q) nf q).length < 1000 := mgcdL_len (by omega) (by omega)
  walk_at "m_go"
  · exact k1 _ _ _ _ (sp_1 (okG_t (by assumption) (by assumption))) (retL hg (by k_asm) (by k_asm) (by k_mem) (by assumption) rfl)
  · exact k1 _ _ _ _ (sp_2 (by first | exact okG_f1 (by assumption) | exact okG_f2 (by assumption)) (okG_t (by assumption) (by assumption))) (retL hg (by k_asm) (by k_asm) (by k_mem) (by assumption) rfl)
  · exact k2 _ _ (sp_0 (by first | exact okG_f1 (by assumption) | exact okG_f2 (by assumption)) (by first | exact okG_f1 (by assumption) | exact okG_f2 (by assumption))) (hg ▸ Fr.keep (by k_asm))
  · exact k2 _ _ (sp_0 (by first | exact okG_f1 (by assumption) | exact okG_f2 (by assumption)) (by first | exact okG_f1 (by assumption) | exact okG_f2 (by assumption))) (hg ▸ Fr.keep (by k_asm))
  · exact k1 _ _ _ _ (sp_2 (by first | exact okG_f1 (by assumption) | exact okG_f2 (by assumption)) (okG_t (by assumption) (by assumption))) (retL hg (by k_asm) (by k_asm) (by k_mem) (by assumption) rfl)
  · exact k2 _ _ (sp_0 (by first | exact okG_f1 (by assumption) | exact okG_f2 (by assumption)) (by first | exact okG_f1 (by assumption) | exact okG_f2 (by assumption))) (hg ▸ Fr.keep (by k_asm))
  · exact k2 _ _ (sp_0 (by first | exact okG_f1 (by assumption) | exact okG_f2 (by assumption)) (by first | exact okG_f1 (by assumption) | exact okG_f2 (by assumption))) (hg ▸ Fr.keep (by k_asm))
end
section
variable {w : World} {A : Around} {base : Heap} {outer : List Env} {p : Program} {loose : List Str} {mean : ExcName → Option Value} {mg mb : Str → Option Value} {s : Shared} {Q : Value → Shared → Prop} {E : Value → Shared → Prop}

set_option maxHeartbeats 2000000 in
theorem c_ltimes {a b : Addr} {na nb : List Int} {q : Int} {tq : Tok} (C : Cx w A base outer p loose mean mg mb 11 s.heap) (ha : LI s.heap a na) (hb : LI s.heap b nb) (hna : na.length < 100) (hnb : nb.length < 100) (hq : q = 2 ∨ q = 3 ∨ q = 5) (da : Dg q na) (db : Dg q nb)
    (k : ∀ h' tk' r, RetL s.heap h' r (ltimesL na nb q) → Q (.ref r) { s with heap := h', toks := tk' }) : wpAny (model PG w) A (call (.ref 190) [.ref a, .ref b, .int q tq]) Q E s := by
  walk_at "m_enter"
  rw [← hg] at ha hb
  obtain ⟨va, la, ia⟩ := ha.list
  obtain ⟨vb, lb, ib⟩ := hb.list
  have hq5 : 2 ≤ q ∧ q ≤ 5 := by first | exact q25 hq | omega
  walk_at "m_go"
  refine m_range1 na.length [(Str.ofString "a", .ref a), (Str.ofString "b", .ref b), (Str.ofString "p", .int q tq), (Str.ofString "found", .ref D')] (fun i fs => fs = (na.zipIdx.take i).foldl (ltRow nb q) (List.replicate (na.length + nb.length) 0) ∧ fs.length = na.length + nb.length) rfl (by k_asm) (small_one (by omega) (by omega) (by omega) (by omega)) (by rw [rangeSize_nat]; exact z_e0 _) (by k_asm) (by k_asm) (by walk_at "m_binds") hz' ⟨by rw [z_add]; rfl, by rw [List.length_replicate, z_add]⟩ ?_ ?_
  · rintro i vs c fs t u h tk own hi ho hv ⟨hI, hl⟩ F N
    rw [z_i] at F
    simp only [List.map_nil, List.nil_append] at ho N
    have hone : na[i]? = some (na.getD i 0) := by rw [List.getD_eq_getElem?_getD, List.getElem?_eq_getElem hi]; rfl
    have hb1 : 0 ≤ na.getD i 0 ∧ na.getD i 0 < q := da _ (List.mem_of_getElem? hone)
    have hb2 : 0 ≤ na.getD (i : Int).toNat 0 ∧ na.getD (i : Int).toNat 0 < q := hb1
    k_steps
    refine m_range1 nb.length [(Str.ofString "a", .ref a), (Str.ofString "b", .ref b), (Str.ofString "p", .int q tq), (Str.ofString "found", .ref D'), (Str.ofString "at", .int (i : Int) t)] (fun j gs => gs = (nb.zipIdx.take j).foldl (mulStep (na.getD i 0) q i) fs ∧ gs.length = na.length + nb.length) rfl (by k_asm) (small_one (by omega) (by omega) (by omega) (by omega)) (by rw [rangeSize_nat]; exact z_e0 _) (by k_asm) (by k_asm) (by walk_at "m_binds") hv ⟨rfl, hl⟩ ?_ ?_
    · rintro j vs c gs t2 u h tk own2 hj ho2 hv ⟨hJ, hl2⟩ F N
      rw [z_i] at F
      have hother : nb[j]? = some (nb.getD j 0) := by rw [List.getD_eq_getElem?_getD, List.getElem?_eq_getElem hj]; rfl
      k_steps
      walk_at "m_fend1"
      refine ⟨?_, by rw [List.length_set]; exact hl2⟩
      rw [foldZ _ _ hother, ← hJ, z_add, fm hq5]
      rfl
    · rintro vs c gs u h tk hv ⟨hJ, hl2⟩ F N
      k_steps
      walk_at "m_fend1"
      refine ⟨?_, hl2⟩
      rw [foldZ _ _ hone, ← hI, hJ, foldZ_all]
      rfl
  · rintro vs c fs u h tk hv ⟨hI, hl⟩ F N
    k_steps
    walk_at "m_ret"
    unfold ltimesL
    rw [hI, foldZ_all]
end
set_option hygiene false in
local macro_rules | `(tactic| walk_at "call ref") => `(tactic| ((with_reducible apply c_ltimes); walk_at "m_args"; walk_at "m_new"))
section
structure LS where
  led : List (Addr × Obj)
  o1 : Obj
  o2 : Obj
  a : Addr
  x : List Int
section
variable {w : World} {A : Around} {base : Heap} {outer : List Env} {p : Program} {loose : List Str} {mean : ExcName → Option Value} {mg mb : Str → Option Value} {s : Shared} {Q : Value → Shared → Prop} {E : Value → Shared → Prop}

local macro_rules | `(tactic| walk_at "subscriptTail Name UnaryOp ref int") => `(tactic| (refine last_LI (by walk_at "m_li") (by omega) (by omega) ?_ (by with_unfolding_all rfl); intro _))
local macro_rules | `(tactic| walk_at "subscriptTail Name BinOp ref int") => `(tactic| (refine sub_LI (by walk_at "m_li") (by omega) (by omega) (by omega) ?_ (by with_unfolding_all rfl); intro _))
local macro_rules | `(tactic| walk_at "eval ListComp") => `(tactic| (k_here; k_dflt (refine m_enumC (by k_asm) (by with_unfolding_all rfl) (by decide) (by rfl) (by decide) (by rfl) (by rfl) (by decide) ?_ (by intro _; rfl))))
local macro_rules | `(tactic| walk_at "call type:enumerate") => `(tactic| (refine stop_of ?_))
set_option maxHeartbeats 2000000 in
theorem c_lleft {a b : Addr} {na nb : List Int} {q : Int} {tq : Tok} (C : Cx w A base outer p loose mean mg mb 11 s.heap) (ha : LI s.heap a na) (hb : LI s.heap b nb) (hna : na.length < 100) (hnb : nb.length < 100) (hb0 : 0 < nb.length) (hq : q = 2 ∨ q = 3 ∨ q = 5) (da : Dg q na) (db : Dg q nb) (hb1 : lastL nb = 1)
    (k : ∀ h' tk' r, RetL s.heap h' r (lleftL na nb q) → Q (.ref r) { s with heap := h', toks := tk' }) : wpAny (model PG w) A (call (.ref 195) [.ref a, .ref b, .int q tq]) Q E s := by
  walk_at "m_enterC"
  rw [← hg] at ha hb
  obtain ⟨va, la, ia⟩ := ha.list
  obtain ⟨vb, lb, ib⟩ := hb.list
  have hq5 : 2 ≤ q ∧ q ≤ 5 := by first | exact q25 hq | omega
  walk_at "m_go"
  refine m_while (σ := LS) (fun c => (L + 1 + 1 + 1 + 1, c.o1) :: (L + 1 + 1 + 1, c.o2) :: (L + 1 + 1, o3') :: (L + 1, o4') :: c.led) (fun c => [(Str.ofString "found", .ref c.a)])
    (fun c => LD c.led c.a c.x ∧ Lists c.led ∧ (∃ v, c.o1.data = .cell v) ∧ (∃ v, c.o2.data = .cell v) ∧ Po q c.x ∧ c.x.length < 100 ∧ llGo nb q (c.x.length + 1) c.x = lleftL na nb q) (fun c => c.x.length) ⟨[(r', listOf vs'.toArray n')], _, _, _, trimL na⟩ (by k_asm) (by walk_at "m_weak") (by walk_at "m_binds") ⟨.mk (.head _) hi', .cons .nil, ⟨_, d1'⟩, ⟨_, d2'⟩, trimL_po da, Nat.lt_of_le_of_lt (trimL_len _) hna, rfl⟩ ?_
  rintro ⟨led, o1, o2, a', x⟩ u h tk ⟨hx, hls, ⟨v1, e1⟩, ⟨v2, e2⟩, px, lx, hgo⟩ F N
  dsimp only at hx hls e1 e2 px lx hgo F N ⊢
  have hx2 : LX g led a' x := hx.lx
  have hoff : OwnOff led [L + 1 + 1 + 1 + 1, L + 1 + 1 + 1] := off_two (off_cell N (by walk_at "m_sub") hls (.head _) e1) (off_cell N (by walk_at "m_sub") hls (.tail _ (.head _)) e2)
  k_steps
  · show wpAny _ _ _ _ _ _
    k_here
    refine enumSrc_call (fun i n => (n - (if x.length - nb.length ≤ i then lastL x * nb.getD (i - (x.length - nb.length)) 0 else 0)) % q) rfl (by k_asm) (by k_asm) (hx.lx.mono (by walk_at "m_sub")) (by omega) ?_ ?_
    · intro h tk i n t t' e oe C oC D ys it oit m₂ h tk E' hn hC hma hmb F N
      have hi2 : i < x.length := (List.getElem?_eq_some_iff.mp hn).1
      have hxb : ¬ x.length < nb.length := by omega
      have hlx : 1 ≤ lastL x ∧ lastL x < q := px.last (ne_of_len (by omega))
      k_steps
      · refine EEnd.intro ?_ (by k_asm) (by k_asm) (by walk_at "m_sub")
        dsimp only
        rw [fm hq5, if_pos (by omega), z_sub2 (Nat.not_lt.mp hxb)]
      · refine EEnd.intro ?_ (by k_asm) (by k_asm) (by walk_at "m_sub")
        dsimp only
        rw [fm hq5, if_neg (by omega)]
    · intro D h tk ys F N off hi
      have hl2 : (llRow nb q x).length < 100 := by rw [llRow_len]; exact lx
      have hi8 : IntsAre ys (llRow nb q x) := hi
      clear hi
      have hlt : ¬ x.length < nb.length := by omega
      have hless := ll_less (p := q) hb0 hb1 hlt
      k_steps
      rename_i oa da h3 ob db tk3 h4 F4 N4
      exact WEnd.intro (σ := LS) ⟨[(r', listOf vs'.toArray n')], ob, oa, r', trimL (llRow nb q x)⟩ (by k_asm) (by k_asm) (by walk_at "m_sub") (by walk_at "m_binds")
        ⟨.mk (.head _) hi', .cons .nil, ⟨_, db⟩, ⟨_, da⟩, trimL_po (llRow_dg (z_q0 hq5)), by dsimp only; omega, by dsimp only; rw [← hgo, ← ll_turn hb0 hb1 hlt]⟩ hless
  · exact k _ _ _ (hx.ret hg (by k_asm) (by k_asm) (by walk_at "m_sub") (by rw [← hgo, ll_end (by omega)]))
end

end
set_option hygiene false in
local macro_rules | `(tactic| walk_at "call ref") => `(tactic| ((with_reducible apply c_lleft); walk_at "m_args"; walk_at "m_new"))
set_option hygiene false in
local macro_rules | `(tactic| walk_at "m_in") => `(tactic| first
  | (with_reducible refine List.mem_cons_of_mem _ ?_; walk_at "m_in")
  | (with_reducible refine List.mem_append_left _ ?_; walk_at "m_in")
  | (with_reducible refine List.mem_append_right _ ?_; walk_at "m_in")
  | with_reducible exact hp9)
set_option hygiene false in
local macro_rules | `(tactic| walk_at "m_sub") => `(tactic| ((try dsimp only); first
  | with_reducible exact List.forall_mem_nil _
  | (with_reducible refine List.forall_mem_cons.mpr ⟨?_, ?_⟩; (focus k_dflt k_mem); walk_at "m_sub")
  | (with_reducible refine sub_app ?_ ?_ <;> walk_at "m_sub")
  | (intro p9 hp9; walk_at "m_in")))
set_option hygiene false in
local macro_rules | `(tactic| walk_at "m_li") => `(tactic| first | exact LX.li (by with_reducible assumption) (by k_asm) (by k_asm) (by walk_at "m_sub") | exact LI.news (by k_asm) (by k_mem) (by first | assumption | exact IntsAre.nil | exact IntsAre.cons _ _ IntsAre.nil) | exact LI.keeps (by assumption) (Fr.keep (by k_asm)))
section
structure MS where
  vl : List (Addr × Obj)
  o1 : Obj
  o2 : Obj
  n : Nat
  rs : List Addr
  xs : List (List Int)
section
variable {w : World} {A : Around} {base : Heap} {outer : List Env} {p : Program} {loose : List Str} {mean : ExcName → Option Value} {mg mb : Str → Option Value} {s : Shared} {Q : Value → Shared → Prop} {E : Value → Shared → Prop}

local macro_rules | `(tactic| walk_at "exec For Name Call cons nil") => `(tactic| (k_here; k_dflt (refine For_turns (by k_asm) ?_)))
local macro_rules | `(tactic| walk_at "CompSrcT") => `(tactic| (refine stop_of ?_))
local macro_rules | `(tactic| walk_at "eval ListComp") => `(tactic| (k_here; k_dflt (refine PyProof.Rows.LCt.ListComp_T (by k_asm) (by with_unfolding_all rfl) (by decide) (by rfl) (by decide) (by rfl) ?_ (by intro _; rfl))))
set_option hygiene false in
local macro_rules | `(tactic| walk_at "call ref") => `(tactic| ((with_reducible apply c_lcounted); walk_at "m_args"; intro h' tk' r' hR'; have hne' := ne_new (by k_asm) hR'.2.2; simp only [List.forall_mem_cons, List.forall_mem_append] at hne'; obtain ⟨hn1, hn2, hn3, hn4, hn5⟩ := hne'; walk_at "m_new2"))
local macro_rules | `(tactic| walk_at "compareOp Eq ref ref") => `(tactic| first | k_dflt (refine eq_LInil (by k_asm) (by walk_at "m_li") (by k_mem) (by walk_at "m_units") ?_) | (refine stop_of ?_))
local macro_rules | `(tactic| walk_at "HPost") => `(tactic| dsimp only [HPost])
set_option maxHeartbeats 2000000 in
theorem c_lprimes {m : Nat} {q : Int} {tq tm : Tok} (C : Cx w A base outer p loose mean mg mb 12 s.heap) (hq : q = 2 ∨ q = 3 ∨ q = 5) (hm : m = 1 ∨ m = 2 ∨ (m = 3 ∧ q = 2))
    (k : ∀ h' tk' r, RetLL s.heap h' r (primesL q m) → Q (.ref r) { s with heap := h', toks := tk' }) : wpAny (model PG w) A (call (.ref 207) [.int q tq, .int m tm]) Q E s := by
  walk_at "m_enterC"
  have hq5 : 2 ≤ q ∧ q ≤ 5 := q25 hq
  have hmb := m3 hm
  walk_at "m_go"
  have hl1 : L + 1 + 1 + 1 < l' ∧ L + 1 + 1 < l' ∧ L + 1 < l' := by assumption
  refine m_rangeT (σ := MS) (fixed := []) m (fun c => (l', listOf (refs c.rs).toArray c.n) :: (L + 1 + 1 + 1, c.o1) :: (L + 1 + 1, c.o2) :: (L + 1, o3') :: c.vl) (fun c => [(Str.ofString "found", .ref l')])
    (fun i c => Lists c.vl ∧ OwnOff c.vl [l', L + 1 + 1 + 1, L + 1 + 1] ∧ All2 (LD c.vl) c.rs c.xs ∧ c.xs = primesL q i ∧ (∃ v, c.o1.data = .cell v) ∧ (∃ v, c.o2.data = .cell v)) ⟨[], _, _, 0, [], []⟩ rfl (by k_asm)
    (small_one (by decide) (by decide) (by omega) (by omega)) (by rw [rangeSize_nat]; exact z_m1 _) (by k_asm) (by k_asm) (.cons .list (.cons (.cell d1') (.cons (.cell d2') (.cons (.cell d3') .nil)))) (by walk_at "m_binds") ⟨.nil, fun _ h => (List.not_mem_nil h).elim, trivial, rfl, ⟨_, d1'⟩, ⟨_, d2'⟩⟩ ?_ ?_
  · rintro ⟨vl, o1, o2, n, rs, xs⟩ i t u h tk own hi ⟨hvl, hoff, hrs, hxs, ⟨v1, e1⟩, ⟨v2, e2⟩⟩ hpc ho F N
    dsimp only at hvl hoff hrs hxs e1 e2 hpc ho F N ⊢
    simp only [List.nil_append, List.append_nil, List.cons_append] at ho N
    have ho2 : OwnOff own [l', L + 1 + 1 + 1, L + 1 + 1] := off_led ho (by simp)
    rw [z_i1]
    have hi3 : i + 1 ≤ 3 := Nat.le_trans hi hmb
    k_steps
    rename_i tk0 h1 osz F1 N1 esz h2 tk2 t1 u1 v1' hr1 F2 N2 k2
    have hpw := pow_small hq hm hi
    rw [hpw.1] at hr1
    have hxl := primesL_ok hq hm i (Nat.le_of_lt hi)
    refine m_rangeT (σ := MS) (fixed := own) (q.toNat ^ (i + 1)) (fun c => (l', listOf (refs c.rs).toArray c.n) :: (L + 1 + 1 + 1, c.o1) :: (L + 1 + 1, osz) :: (L + 1, o3') :: c.vl) (fun c => [(Str.ofString "found", .ref l')])
      (fun j c => Lists c.vl ∧ OwnOff c.vl [l', L + 1 + 1 + 1, L + 1 + 1] ∧ All2 (LD c.vl) c.rs c.xs ∧ c.xs = primIn q (i + 1) j xs ∧ (∃ v, c.o1.data = .cell v)) ⟨vl, o1, osz, n, rs, xs⟩ rfl (by k_asm)
      (small_one (by decide) (by decide) (by omega) (by omega)) (by rw [rangeSize_nat]; exact z_e0 _) (by exact F2) (by exact N2) (.cons .list (.cons (.cell e1) (.cons (.cell esz) (.cons (.cell d3') (.lists hvl))))) (by walk_at "m_binds") ⟨hvl, hoff, hrs, rfl, ⟨_, e1⟩⟩ ?_ ?_
    · rintro ⟨vl, o1, _, n, rs, ys⟩ j t2 u h tk own2 hj ⟨hvl, hoff, hrs, hys, ⟨v1, e1⟩⟩ hpc ho3 F N
      dsimp only at hvl hoff hrs hys e1 hpc ho3 F N ⊢
      simp only [List.cons_append] at ho3 N
      have ho4 : OwnOff own2 [l', L + 1 + 1 + 1, L + 1 + 1] := off_led ho3 (by simp)
      rw [z_i]
      have hj25 : j < 25 := Nat.lt_of_lt_of_le hj hpw.2
      have hyo := primIn_ok (q := q) hq5.1 (m := i + 1) (Nat.lt_of_le_of_lt hi3 (by decide)) (hxs ▸ hxl.1) j
      rw [← hys] at hyo
      have hrl := hrs.len
      have hrz : rs.length < 2000 := by
        have h1 := hyo.2
        rw [hxs, ← hrl] at h1
        exact Nat.lt_of_le_of_lt (Nat.le_trans h1 (Nat.add_le_add (Nat.le_trans hxl.2 (Nat.mul_le_mul_left 25 (Nat.le_of_succ_le hi3))) (Nat.le_of_lt hj25))) (by decide)
      have hro : PrOk q (lcntL j (i + 1) q) := lcnt_ok hq5.1 (Nat.lt_of_le_of_lt hi3 (by decide))
      have hrd := hro.1
      have hrl' := hro.2.2.2
      k_steps
      rename_i hRow oRow FRow NRow dRow
      have hnr : Hold (l' ≠ r' ∧ L + 1 + 1 + 1 ≠ r' ∧ L + 1 + 1 ≠ r') := ⟨hn1, hn2, hn3⟩
      clear hn1 hn2 hn3 hn4 hn5
      refine filt_src (vl := vl) (primTest q (i + 1) (lcntL j (i + 1) q)) rfl (by k_asm) (by k_asm) (by k_mem) (by walk_at "m_sub") hrs hrz ?_ ?_ ?_
      · intro a x I oI C8 oC D ys m₂ h tk E' hax hxm hC hma F N
        have hax2 : LX g vl a x := hax.lx
        have hxo := hyo.1 x hxm
        have hx1 := hxo.1
        have hx2 := hxo.2.1
        have hx3 := hxo.2.2.1
        have hx4 := hxo.2.2.2
        k_steps
        · refine TEnd.intro ?_ (by k_asm) (by k_asm) (by walk_at "m_sub")
          unfold primTest; rw [decide_eq_true (by assumption), show decide (lleftL (lcntL j (i + 1) q) x q = []) = true by first | assumption | exact decide_eq_true (by assumption)]; rfl
        · refine TEnd.intro ?_ (by k_asm) (by k_asm) (by walk_at "m_sub")
          unfold primTest; rw [decide_eq_true (by assumption), show decide (lleftL (lcntL j (i + 1) q) x q = []) = false by first | assumption | exact dec_f (by assumption) | exact decide_eq_false (by assumption)]; rfl
        · refine TEnd.intro ?_ (by k_asm) (by k_asm) (by walk_at "m_sub")
          unfold primTest; rw [decide_eq_false (by assumption)]; rfl
      · intro v I oI C8 oC D ys m₂ h tk E' Q' hC hma F N hQ
        k_steps
        exact hQ
      · intro h₃ rs' hrs' hsub
        have hz9 : (refs rs).length ≤ 2000 := by rw [show (refs rs).length = rs.length by simp]; exact Nat.le_of_lt hrz
        have hn1 : @Ne Nat l' r' := hnr.1
        k_steps
        refine eq_LLnil (by k_asm) (by k_mem) hrs' (by walk_at "m_sub") (by k_mem) (by walk_at "m_units") ?_
        k_steps
        · have hde : ys.filter (primTest q (i + 1) (lcntL j (i + 1) q)) = [] := by first | assumption | exact of_decide_eq_true (by assumption)
          rename News _ _ _ _ => NN
          rename Fr _ _ _ _ => FF
          rw [show refs rs ++ [Value.ref r'] = refs (rs ++ [r']) by simp] at NN
          refine HEnd.intro ⟨(r', listOf vs'.toArray n') :: vl, oRow, osz, n + 1, rs ++ [r'], ys ++ [lcntL j (i + 1) q]⟩ FF NN (by walk_at "m_sub") (by walk_at "m_sub") (.cons .list (.cons (.cell dRow) (.cons (.cell esz) (.cons (.cell d3') (.cons .list (.lists hvl)))))) (by walk_at "m_binds")
            ⟨.cons hvl, ?_, ?_, ?_, ⟨_, dRow⟩⟩
          · intro p hp
            rcases List.mem_cons.mp hp with rfl | hp
            · intro b hb e
              have e' : r' = b := e
              simp only [List.mem_cons, List.not_mem_nil, or_false] at hb
              rcases hb with rfl | rfl | rfl
              · exact hnr.1 e'.symm
              · exact hnr.2.1 e'.symm
              · exact hnr.2.2 e'.symm
            · exact hoff p hp
          · exact (hrs.mono fun _ _ y => y.mono fun p hp => .tail _ hp).snoc (.mk (.head _) hi')
          · show ys ++ [_] = primStep q (i + 1) (primIn q (i + 1) j xs) j
            unfold primStep
            rw [← hys, if_pos hde]
        · have hde : ¬ ys.filter (primTest q (i + 1) (lcntL j (i + 1) q)) = [] := by first | assumption | exact of_decide_eq_false (by assumption) | exact of_decide_eq_false (dec_f (by assumption))
          refine HEnd.intro ⟨vl, oRow, osz, n, rs, ys⟩ (by k_asm) (by k_asm) (by walk_at "m_sub") (by walk_at "m_sub") (.cons .list (.cons (.cell dRow) (.cons (.cell esz) (.cons (.cell d3') (.lists hvl))))) (by walk_at "m_binds")
            ⟨hvl, hoff, hrs, ?_, ⟨_, dRow⟩⟩
          show ys = primStep q (i + 1) (primIn q (i + 1) j xs) j
          unfold primStep
          rw [← hys, if_neg hde]
    · rintro ⟨vl, o1, _, n, rs, ys⟩ u h tk ⟨hvl, hoff, hrs, hys, ⟨v1, e1⟩⟩ F N
      dsimp only at hvl hoff hrs hys e1 F N ⊢
      simp only [List.cons_append] at N
      k_steps
      refine HEnd.intro ⟨vl, o1, osz, n, rs, ys⟩ (by k_asm) (by k_asm) (by walk_at "m_sub") (by walk_at "m_sub") (.cons .list (.cons (.cell e1) (.cons (.cell esz) (.cons (.cell d3') (.lists hvl))))) (by walk_at "m_binds")
        ⟨hvl, hoff, hrs, ?_, ⟨_, e1⟩, ⟨_, esz⟩⟩
      show ys = primIn q (i + 1) (q.toNat ^ (i + 1)) (primesL q i)
      rw [hys, hxs]
  · rintro ⟨vl, o1, o2, n, rs, ys⟩ u h tk ⟨hvl, hoff, hrs, hys, _⟩ F N
    dsimp only at hvl hoff hrs hys F N ⊢
    simp only [List.cons_append, List.append_nil] at N
    k_steps
    exact k _ _ _ (retLL hg (by k_asm) (by k_asm) (by k_mem) (by walk_at "m_sub") hvl (fun p hp => hoff p hp _ (.head _)) hrs hys)
end

end
section
/-- a list of lists of ints of the base -/
noncomputable def LLB (h : Heap) (l : Addr) (xs : List (List Int)) : Prop := ∃ rs n, h.get? l = some (listOf (refs rs).toArray n) ∧ All2 (LI h) rs xs
theorem llb_of {g h : Heap} {l : Addr} {rs : List Addr} {n : Nat} {xs : List (List Int)} (e : g.get? l = some (listOf (refs rs).toArray n)) (x : All2 (LI g) rs xs) (k : Kp g h) : LLB h l xs := ⟨rs, n, k _ _ e, x.mono fun _ _ y => y.keeps k⟩
/-- x is what some choice split off -/
noncomputable def Cut (q : Int) (m : Nat) (f x : List Int) : Prop := ∃ a, Po q a ∧ splitOL f m a q = some x
structure FS where
  led : List (Addr × Obj)
  v : Value
  n : Int
  t : Tok
section
variable {w : World} {A : Around} {base : Heap} {outer : List Env} {p : Program} {loose : List Str} {mean : ExcName → Option Value} {mg mb : Str → Option Value} {s : Shared} {Q : Value → Shared → Prop} {E : Value → Shared → Prop}

set_option hygiene false in
local macro_rules | `(tactic| walk_at "call ref") => `(tactic| (((with_reducible apply c_splito); walk_at "m_args") <;> first | (intro h' tk' r' x' hx' hR'; walk_at "m_new2") | (intro h' tk' hx' kp'; walk_at "m_int2")))
local macro_rules | `(tactic| walk_at "exec For Name Name cons nil") => `(tactic| (k_here; (rename Fr _ _ _ _ => lF'); (with_unfolding_all refine' For_invVF lF' ?k1 ?k2 ?_; (case k1 => exact rfl); (case k2 => exact rfl); k_whole)))
set_option maxHeartbeats 2000000 in
theorem c_first {f c : Addr} {nf : List Int} {cs : List (List Int)} {m : Nat} {q : Int} {tq tm : Tok} (C : Cx w A base outer p loose mean mg mb 8 s.heap) (hf : LI s.heap f nf) (hc : LLB s.heap c cs) (hnf : nf.length < 50) (hf0 : 0 < nf.length) (hcs : ∀ x ∈ cs, Po q x ∧ x.length < 100) (hm : m = 1 ∨ m = 2 ∨ (m = 3 ∧ q = 2)) (hq : q = 2 ∨ q = 3 ∨ q = 5) (pf : Po q nf)
    (hE : ∃ N : Nat, q ≤ (N : Int) ∧ N < 100 ∧ splitOL nf m (countedL N q) q ≠ none)
    (k : ∀ h' tk' r x, Cut q m nf x → RetL s.heap h' r x → Q (.ref r) { s with heap := h', toks := tk' }) : wpAny (model PG w) A (call (.ref 157) [.ref f, .int m tm, .ref c, .int q tq]) Q E s := by
  walk_at "m_enter"
  rw [← hg] at hf hc
  obtain ⟨rs, nc, hcl, hrs⟩ := hc
  have hcL : g.IsList c (refs rs).toArray := ⟨_, hcl, rfl, nc, rfl⟩
  have hq5 : 2 ≤ q ∧ q ≤ 5 := by first | exact q25 hq | omega
  have hlast := pf.last (ne_of_len (by omega))
  walk_at "m_go"
  refine m_listB (σ := Unit) (fun _ => []) (fun _ => [(Str.ofString "f", .ref f), (Str.ofString "degree", .int m tm), (Str.ofString "choices", .ref c), (Str.ofString "p", .int q tq)]) (fun _ _ => True) () rfl hcL (by k_asm) (by k_asm) (by walk_at "m_binds") trivial ?_ ?_
  · rintro _ i v u h tk own hi hv ho _ F N
    obtain ⟨a, hvr⟩ : ∃ a, rs[i]? = some a ∧ v = .ref a := by
      have hi2 : i < rs.length := by simpa using hi
      refine ⟨rs[i], List.getElem?_eq_getElem hi2, ?_⟩
      have : (refs rs).toArray[i]? = some (Value.ref rs[i]) := by simp [hi2]
      rw [this] at hv
      exact (Option.some.inj hv).symm
    obtain ⟨hvr, rfl⟩ := hvr
    obtain ⟨x, hx1, hx2⟩ := hrs.at hvr
    have hxo := hcs x (List.mem_of_getElem? hx1)
    have hx3 := hxo.2
    have hx4 : Po q (mrestL x nf q) := mrestL_po (by omega) hxo.1.1
    have hx5 : (mrestL x nf q).length ≤ nf.length - 1 := mrestL_len
    dsimp only [List.nil_append] at F N ⊢
    k_steps
    · exact k _ _ _ x' ⟨_, hx4, hx'⟩ (retL hg (by k_asm) (by k_asm) (by k_mem) hi' rfl)
    · exact FEnd.intro () (by k_asm) (by k_asm) (by walk_at "m_sub") (by walk_at "m_sub") rfl (by walk_at "m_binds") trivial
  · rintro _ u h tk _ F N
    dsimp only at F N ⊢
    obtain ⟨M, hM1, hM2, hM3⟩ := hE
    k_steps
    refine m_while (σ := FS) (fun c => c.led) (fun c => [(Str.ofString "f", .ref f), (Str.ofString "degree", .int m tm), (Str.ofString "p", .int q tq), (Str.ofString "part", c.v), (Str.ofString "number", .int c.n c.t)])
      (fun c => (c.v = .none ∧ q ≤ c.n ∧ c.n ≤ (M : Int)) ∨ ∃ r x, c.v = .ref r ∧ LD c.led r x ∧ Cut q m nf x) (fun c => match c.v with | .none => ((M : Int) - c.n).toNat + 1 | _ => 0) ⟨[], .none, q, _⟩ (by k_asm) (by walk_at "m_weak") (by walk_at "m_binds") (.inl ⟨rfl, Int.le_refl _, hM1⟩) ?_
    rintro ⟨led, v, n, t⟩ u h tk hI F N
    dsimp only at hI F N ⊢
    rcases hI with ⟨rfl, h1, h2⟩ | ⟨r, x, rfl, hr, hx⟩
    · obtain ⟨e, rfl⟩ : ∃ e : Nat, n = (e : Int) := ⟨n.toNat, by omega⟩
      have he1 : Po q (countedL e q) := countedL_po (by omega) e
      have he2 : (countedL e q).length ≤ e := countedL_len q e
      have he3 : e < 1000 := by omega
      k_steps
      · exact WEnd.intro (σ := FS) ⟨[(r', listOf vs'.toArray n')], .ref r', (e : Int) + 1, _⟩ (by k_asm) (by k_asm) (by walk_at "m_sub") (by walk_at "m_binds") (.inr ⟨r', x', rfl, .mk (.head _) hi', _, he1, hx'⟩) (Nat.succ_pos _)
      · have hne : ((e : Nat) : Int) ≠ (M : Int) := fun h => by
          have h' : e = M := by omega
          rw [← h'] at hM3
          exact hM3 hx'
        exact WEnd.intro (σ := FS) ⟨[], .none, (e : Int) + 1, _⟩ (by k_asm) (by k_asm) (by walk_at "m_sub") (by walk_at "m_binds") (.inl ⟨rfl, by dsimp only; omega, by dsimp only; omega⟩) (by dsimp only; omega)
    · k_steps
      exact k _ _ _ x hx (hr.ret hg (by k_asm) (by k_asm) (by walk_at "m_sub") rfl)
end

end
section
variable {w : World} {A : Around} {base : Heap} {outer : List Env} {p : Program} {loose : List Str} {mean : ExcName → Option Value} {mg mb : Str → Option Value} {s : Shared} {Q : Value → Shared → Prop} {E : Value → Shared → Prop}
set_option maxHeartbeats 2000000 in
theorem c_morder {a : Addr} {x : List Int} (C : Cx w A base outer p loose mean mg mb 1 s.heap) (ha : LI s.heap a x) (hx : x.length < 100)
    (k : ∀ h' tk' T t R, Kp s.heap h' → h'.get? T = some (tup2 x.length t R) → s.heap.get? T = none → LI h' R x.reverse → s.heap.get? R = none → Q (.ref T) { s with heap := h', toks := tk' }) : wpAny (model PG w) A (call (.ref 115) [.ref a]) Q E s := by
  walk_at "m_enter"
  rw [← hg] at ha
  obtain ⟨va, la, ia⟩ := ha.list
  walk_at "m_go"
  rename_i R ws h1 hI _ _ T h2 F2 N2 l2
  exact k _ _ _ _ _ (hg ▸ F2.keep) (N2 _ (.head _)).1 (hg ▸ (N2 _ (.head _)).2.2) (LI.news N2 (.tail _ (.head _)) hI) (hg ▸ (N2 _ (.tail _ (.head _))).2.2)
end
local macro_rules | `(tactic| walk_at "call builtin:len") => `(tactic| first | refine len_refs (by k_asm) (by k_mem) (by assumption) ?_ | refine len_LI (by walk_at "m_li") (by walk_at "m_len") ?_)
local macro_rules | `(tactic| walk_at "m_ap") => `(tactic| (simp only [refs, List.length_append, List.length_map, List.length_cons, List.length_nil]; omega))
section
structure ES where
  vl : List (Addr × Obj)
  nw : Nat
  was : List Addr
  W : List (List (List Int))
  nf : Nat
  fas : List Addr
  fs : List (List Int)
noncomputable def wMu (W : List (List (List Int))) : Nat := (W.map fun S => 2 * S.length - 1).sum
theorem wMu_snoc (W : List (List (List Int))) (S : List (List Int)) : wMu (W ++ [S]) = wMu W + (2 * S.length - 1) := by simp [wMu]
section
variable {w : World} {A : Around} {base : Heap} {outer : List Env} {p : Program} {loose : List Str} {mean : ExcName → Option Value} {mg mb : Str → Option Value} {s : Shared} {Q : Value → Shared → Prop} {E : Value → Shared → Prop}
set_option hygiene false in
local macro_rules | `(tactic| walk_at "call ref") => `(tactic| ((with_reducible apply c_mquotient); walk_at "m_args"; intro h' tk' r' hR'; have hne2 := ne_new (by k_asm) hR'.2.2; simp only [List.forall_mem_cons] at hne2; obtain ⟨hn2, hn3, hn4, -⟩ := hne2; walk_at "m_new2"))
local macro_rules | `(tactic| walk_at "call builtin:list.pop") => `(tactic| (refine stop_of ?_))
local macro_rules | `(tactic| walk_at "call builtin:sorted") => `(tactic| (refine stop_of ?_))
set_option maxHeartbeats 2000000 in
theorem c_equal {f ca : Addr} {nf : List Int} {cs due : List (List Int)} {V : List (List Int) → List Int} {G : List (List Int) → Prop} {m : Nat} {q : Int} {tq tm : Tok} (C : Cx w A base outer p loose mean mg mb 9 s.heap) (hf : LI s.heap f nf) (hc : LLB s.heap ca cs) (hnf : nf.length < 50) (hcs : ∀ x ∈ cs, Po q x ∧ x.length < 100) (hm : m = 1 ∨ m = 2 ∨ (m = 3 ∧ q = 2)) (hq : q = 2 ∨ q = 3 ∨ q = 5) (pf : Po q nf)
    (EL : EqLaw q m V G) (hGd : G due) (hmon : mmonicL nf q = V due) (hnd : due.Nodup) (hdl : due.length ≤ 3) (hdm : ∀ x ∈ due, x.length = m + 1)
    (k : ∀ h' tk' r ys, RetLL s.heap h' r ys → ys.Perm due → Srt ys → Q (.ref r) { s with heap := h', toks := tk' }) : wpAny (model PG w) A (call (.ref 150) [.ref f, .int m tm, .ref ca, .int q tq]) Q E s := by
  walk_at "m_enter"
  rw [← hg] at hf hc
  obtain ⟨rs, nc, hcl, hrs⟩ := hc
  have hq5 : 2 ≤ q ∧ q ≤ 5 := q25 hq
  have hmb := m3 hm
  have hnf2 : nf.length < 200 := Nat.lt_trans hnf (by decide)
  walk_at "m_go"
  rename_i lw h5 l12 h4 l11 D9 h3 l10 h2 h1 h0 F0 N0
  refine m_while (σ := ES) (fun c => (lw, listOf (refs c.was).toArray c.nw) :: (l', listOf (refs c.fas).toArray c.nf) :: c.vl) (fun c => [(Str.ofString "waiting", .ref lw), (Str.ofString "found", .ref l'), (Str.ofString "degree", .int m tm), (Str.ofString "choices", .ref ca), (Str.ofString "p", .int q tq)])
    (fun c => OwnOff c.vl [lw, l'] ∧ Lists c.vl ∧ All2 (LD c.vl) c.was (c.W.map V) ∧ All2 (LD c.vl) c.fas c.fs ∧ (c.W.flatten ++ c.fs).Perm due ∧ (∀ S ∈ c.W, G S)) (fun c => wMu c.W) ⟨[(r', listOf vs'.toArray n')], 0, [r'], [due], 0, [], []⟩
    (by k_asm) (by walk_at "m_weak") (by walk_at "m_binds") ⟨?_, .cons .nil, ⟨.mk (.head _) (hmon ▸ hi'), trivial⟩, trivial, by simp, fun S hS => by rw [List.mem_singleton.mp hS]; exact hGd⟩ ?_
  · intro p hp b hb
    rw [List.mem_singleton.mp hp]
    simp only [List.mem_cons, List.not_mem_nil, or_false] at hb
    rcases hb with rfl | rfl
    · exact Nat.ne_of_lt l12
    · exact Nat.ne_of_lt l11.2
  rintro ⟨vl, nw, was, W, nf', fas, fs⟩ u h tk ⟨hoff, hvl, hwas, hfas, hperm, hW⟩ F N
  dsimp only at hoff hvl hwas hfas hperm hW F N ⊢
  have hllw : @LT.lt Nat _ lw l' := l11.1
  clear l12 l11 l10
  have hlen0 : W.flatten.length + fs.length = due.length := by rw [← List.length_append]; exact hperm.length_eq
  have hlen1 := flat_len fun S hS => EL.pos (hW S hS)
  have hlen2 := hwas.len
  rw [List.length_map] at hlen2
  have hlen3 := hfas.len
  have hfz : fas.length < 2000 := Nat.lt_of_le_of_lt (Nat.le_trans (Nat.le_of_eq hlen3) (Nat.le_trans (Nat.le_add_left _ _) (Nat.le_trans (Nat.le_of_eq hlen0) hdl))) (by decide)
  rcases List.eq_nil_or_concat W with rfl | ⟨W', S, hWe⟩
  · have hw0 : was = [] := List.length_eq_zero_iff.mp hlen2
    subst hw0
    have hz0 : ([] : List Addr).length < 2000 := by decide
    have hpf : fs.Perm due := by simpa using hperm
    k_steps
    have hu9 : un + 3 + 66 < cLine := by have := C.un; dsimp only at this; omega
    refine m_sorted (P := LD vl) (fun a x hx => .inr (by obtain ⟨vs, n, h1, h2⟩ := hx; exact ⟨vs, n, .tail _ (.tail _ h1), h2⟩)) (k := m + 1) (by k_asm) N (N _ (.tail _ (.head _))).1 hfas (fun x hx => hdm x (hpf.mem_iff.mp hx)) (hpf.nodup_iff.mpr hnd) (by have := EL.pos hGd; have := hpf.length_eq; omega) hu9 ?_ ?_
    · intro h tk a x Q' E' F N hl hx k9
      refine c_morder (Cx.mono ((Cx.step C F rfl rfl).in1.in1) (by decide)) hl (by omega) ?_
      intro h' tk' T t R kp hT fT hR fR
      rw [hx] at hT
      exact k9 h' tk' T t R kp hT fT hR fR
    · intro D h' tk' c' rs' ys F' N' l1 hys hperm' hsrt hsub
      exact k _ _ _ ys (retLL (vl := vl) hg F' N' (.head _) (fun p hp => .tail _ (.tail _ (.tail _ hp))) hvl (fun p hp => Nat.ne_of_lt (l1 p (.tail _ (.tail _ hp)))) hys rfl) (hperm'.trans hpf) hsrt
  · rw [List.concat_eq_append] at hWe
    subst hWe
    rw [List.map_append] at hwas
    obtain ⟨was', a, rfl, hwas', ha⟩ := hwas.snoc_inv
    have hGS := hW S (by simp)
    have hpo := EL.po hGS
    have hpo1 := hpo.1
    have hpo2 := hpo.2.1
    have hpo3 := hpo.2.2
    have hpd := hpo.1.1
    have ha2 : LX g vl a (V S) := ha.lx
    have h8 : (was' ++ [a]).length ≤ 3 := Nat.le_trans (Nat.le_of_eq hlen2) (Nat.le_trans hlen1 (Nat.le_trans (Nat.le_add_right _ _) (Nat.le_trans (Nat.le_of_eq hlen0) hdl)))
    have hz0 : (was' ++ [a]).length < 2000 := Nat.lt_of_le_of_lt h8 (by decide)
    have hz1 : was'.length < 1900 := Nat.lt_of_le_of_lt (Nat.le_trans (by rw [List.length_append]; exact Nat.le_add_right _ _) h8) (by decide)
    have hv200 : (V S).length < 200 := Nat.lt_trans (EL.po hGS).2.1 (by decide)
    have h81 : 0 < (was' ++ [a]).length := by simp
    by_cases hS : (V S).length = m + 1
    · k_steps
      · refine pop_refs (by k_asm) (by k_asm) (by k_upd) (by omega) ?_
        intro h' F' N'
        k_steps
        · have hSe := EL.one hGS hS
          rename News _ _ _ _ => NN
          rename Fr _ _ _ _ => FF
          rw [refs_snoc] at NN
          exact WEnd.intro (σ := ES) ⟨vl, nw + 1, was', W', nf' + 1, fas ++ [a], fs ++ [V S]⟩ FF NN (by walk_at "m_sub") (by walk_at "m_binds")
            ⟨hoff, hvl, hwas', hfas.snoc ha, perm_one hperm hSe, fun T hT => hW T (List.mem_append_left _ hT)⟩ (by rw [wMu_snoc]; have := EL.pos hGS; show wMu W' < _; omega)
        · exfalso; omega
    · have hE := EL.many hGS hS
      k_steps
      · refine pop_refs (by k_asm) (by k_asm) (by k_upd) (by omega) ?_
        intro h' F' N'
        k_steps
        · exfalso; omega
        · refine c_first (by walk_at "m_cx") (by walk_at "m_li") (llb_of hcl hrs (Fr.keep (by k_asm))) (by assumption) (by assumption) (by assumption) (by assumption) (by assumption) (by assumption) (by assumption) ?_
          intro h' tk' rp x' hx' hR'
          obtain ⟨kp', ⟨vsp, np, hl', hip⟩, fr'⟩ := hR'
          have hne' := ne_new (by k_asm) fr'
          have F' := Fr.after (by k_asm) kp'
          have N' := news_add (by k_asm) (by k_asm) kp' hl' fr'
          clear kp' hl' fr'
          simp only [List.forall_mem_cons] at hne'
          obtain ⟨hm1, hm2, hm3⟩ := hne'
          clear hm3
          obtain ⟨ac, hac1, hac2⟩ := hx'
          obtain ⟨S1, S2, g1, g2, hpS, rfl, hqS⟩ := EL.cut hGS hS hac1 hac2
          have hp1 := EL.po g1
          have hlast1 := hp1.1.last (ne_of_len (by omega))
          have hp12 := hp1.2.1
          have hp13 := hp1.2.2
          have hlen1 : (V S1).length < 200 := Nat.lt_trans hp12 (by decide)
          k_steps
          rename News _ _ _ _ => NN
          rename Fr _ _ _ _ => FF
          rw [refs_snoc, refs_snoc] at NN
          have l1 := EL.pos g1
          have l2 := EL.pos g2
          have l3 : S1.length + S2.length = S.length := by rw [← List.length_append]; exact hpS.length_eq
          refine WEnd.intro (σ := ES) ⟨(r', listOf vs'.toArray n') :: (rp, listOf vsp.toArray np) :: vl, nw + 1 + 1 + 1, was' ++ [rp] ++ [r'], W' ++ [S1] ++ [S2], nf', fas, fs⟩ FF NN (by walk_at "m_sub") (by walk_at "m_binds")
            ⟨?_, .cons (.cons hvl), ?_, hfas.mono fun _ _ y => y.mono fun p hp => .tail _ (.tail _ hp), perm_two hperm hpS, ?_⟩ (by show wMu (W' ++ [S1] ++ [S2]) < wMu (W' ++ [S]); rw [wMu_snoc, wMu_snoc, wMu_snoc]; exact z_mu l1 l2 l3)
          · intro p hp
            rcases List.mem_cons.mp hp with rfl | hp
            · intro b hb e
              have e' : r' = b := e
              simp only [List.mem_cons, List.not_mem_nil, or_false] at hb
              rcases hb with rfl | rfl
              · exact hn3 e'.symm
              · exact hn4 e'.symm
            · rcases List.mem_cons.mp hp with rfl | hp
              · intro b hb e
                have e' : rp = b := e
                simp only [List.mem_cons, List.not_mem_nil, or_false] at hb
                rcases hb with rfl | rfl
                · exact hm1 e'.symm
                · exact hm2 e'.symm
              · exact hoff p hp
          · rw [List.map_append, List.map_append]
            exact ((hwas'.mono fun _ _ y => y.mono fun p hp => .tail _ (.tail _ hp)).snoc (.mk (.tail _ (.head _)) hip)).snoc (.mk (.head _) (hqS ▸ hi'))
          · intro T hT
            rcases List.mem_append.mp hT with hT | hT
            · rcases List.mem_append.mp hT with hT | hT
              · exact hW T (List.mem_append_left _ hT)
              · rw [List.mem_singleton.mp hT]; exact g1
            · rw [List.mem_singleton.mp hT]; exact g2
end

end
section
section
variable {w : World} {A : Around} {base : Heap} {outer : List Env} {p : Program} {loose : List Str} {mean : ExcName → Option Value} {mg mb : Str → Option Value} {s : Shared} {Q : Value → Shared → Prop} {E : Value → Shared → Prop}
local macro_rules | `(tactic| walk_at "HPost") => `(tactic| dsimp only [HPost])
set_option maxHeartbeats 2000000 in
theorem c_draws {sc : Addr} {ns : List Int} (C : Cx w A base outer p loose mean mg mb 2 s.heap) {va : List Value} (la : s.heap.IsList sc va.toArray) (ia : IntsAre va ns) (hn : ns.length < 500)
    (k : ∀ h' tk' D r n n2 vs rows seed ts, Kp s.heap h' → h'.get? D = some (listOf #[.ref r, .int seed ts] n) → s.heap.get? D = none → h'.get? r = some (listOf vs.toArray n2) → s.heap.get? r = none → r ≠ D → IntsAre vs rows → 0 ≤ seed → seed < 2147483647 → rows.length < 500 → Q (.ref D) { s with heap := h', toks := tk' }) : wpAny (model PG w) A (call (.ref 169) [.ref sc]) Q E s := by
  walk_at "m_enter"
  rw [← hg] at la
  walk_at "m_go"
  rename_i Dr h4 tk4 o4 D9 h3 l9 h2 h1 h0 F0 N0
  have hyz := (show IntsAre ys _ from by assumption).length
  refine m_listF (σ := Int × Tok) (fixed := [(Dr, LCg.lst ys)]) (nl := ys.length) (fun c => [(Str.ofString "rows", .ref Dr), (Str.ofString "seed", .int c.1 c.2)]) (fun _ c => 0 ≤ c.1 ∧ c.1 < 2147483647) (8191, _) rfl (.head _) (by k_asm) (by walk_at "m_weak") (by walk_at "m_binds") ⟨(by decide : (0 : Int) ≤ 8191), (by decide : (8191 : Int) < 2147483647)⟩ ?_ ?_
  · rintro ⟨seed, t⟩ i v u h tk own hv ⟨i1, i2⟩ F N
    dsimp only at i1 i2 F N ⊢
    simp only [List.cons_append, List.nil_append] at N
    obtain ⟨z, tz, hz1, hz2⟩ := (show IntsAre ys _ from by assumption).at i v (by simpa using hv)
    subst hz1
    k_steps
    refine HEnd.intro (σ := Int × Tok) (_, _) (by k_asm) (by k_asm) (by walk_at "m_sub") (by walk_at "m_sub") .nil (by walk_at "m_binds") ?_
    exact fmod_bd (p := 2147483647) (by decide) _
  · rintro ⟨seed, t⟩ u h tk ⟨i1, i2⟩ F N
    dsimp only at i1 i2 F N ⊢
    k_steps
    rename News _ _ _ _ => NN
    rename Fr _ _ _ _ => FF
    have hIy := (show IntsAre ys _ from by assumption)
    exact k _ _ _ Dr _ _ ys _ seed _ (hg ▸ FF.keep) (NN _ (.head _)).1 (hg ▸ (NN _ (.head _)).2.2) (NN _ (.tail _ (.head _))).1 (hg ▸ (NN _ (.tail _ (.head _))).2.2) (Nat.ne_of_lt (by assumption)) hIy i1 i2 (by rw [List.length_map, List.length_take]; omega)
end

end
section
section
variable {w : World} {A : Around} {base : Heap} {outer : List Env} {p : Program} {loose : List Str} {mean : ExcName → Option Value} {mg mb : Str → Option Value} {s : Shared} {Q : Value → Shared → Prop} {E : Value → Shared → Prop}
set_option hygiene false in
local macro_rules | `(tactic| walk_at "m_enterN") => `(tactic| (walk_at "m_a"; k_dflt (refine enterN C X T F0 N0 (by k_is) (by k_is) (by exact BindsTo.of_eq rfl) (by exact locs rfl) ?_ (by rfl) (by rfl) (by rfl) (by decide)); intro L' h1 oL F N back; have hh := C.hd; (try dsimp only)))
local macro_rules | `(tactic| walk_at "compareOp NotEq ref ref") => `(tactic| (refine stop_of ?_))
local macro_rules | `(tactic| walk_at "call builtin:list.pop") => `(tactic| (refine stop_of ?_))
set_option maxHeartbeats 2000000 in
theorem c_take {g : Heap} {L dr r : Addr} {m0 : Str → Option Value} {led : List (Addr × Obj)} {n n2 : Nat} {vs : List Value} {rows : List Int} {seed many : Int} {ts tm : Tok} (C : Cx w A base outer p loose mean mg mb 9 s.heap) (X : (Mine.hd.heap_39 w.params).In g) (T : Top p loose mean mg mb g) (F0 : Fr g L s.heap m0)
    (N0 : News g L s.heap ((dr, listOf #[.ref r, .int seed ts] n) :: (r, listOf vs.toArray n2) :: led)) (hoff : OwnOff led [dr, r]) (hne : @Ne Nat dr r) (hi : IntsAre vs rows) (hs : 0 ≤ seed ∧ seed < 2147483647) (hr : rows.length < 500) (hmany : 1 ≤ many ∧ many ≤ 100)
    (k : ∀ h' tk' v t n' n2' vs' rows' seed' ts', Fr g L h' m0 → News g L h' ((dr, listOf #[.ref r, .int seed' ts'] n') :: (r, listOf vs'.toArray n2') :: led) → IntsAre vs' rows' → 0 ≤ seed' ∧ seed' < 2147483647 → rows'.length < 500 → 0 ≤ v ∧ v < many → Q (.int v t) { s with heap := h', toks := tk' }) :
    wpAny (model PG w) A (call (.ref 176) [.ref dr, .int many tm]) Q E s := by
  have hLd : @Ne Nat L dr := fun e => (N0 _ (.head _)).2.1 e.symm
  have hLr : @Ne Nat L r := fun e => (N0 _ (.tail _ (.head _))).2.1 e.symm
  walk_at "m_enterN"
  have hLL : @Ne Nat L L' := (N _ (.head _)).2.1
  cases hi with
  | nil =>
    walk_at "m_go"
    refine ne_LInil_f (by k_asm) (by k_mem) (by k_mem) (by walk_at "m_units") ?_
    k_steps
    rename News _ _ _ _ => NN
    rename Fr _ _ _ _ => FF
    exact k _ _ _ _ _ _ [] [] _ _ (back _ (NN (L, oL) (by k_mem)).1 FF.keep) (news_back N0 NN (by k_mem) (by k_mem) (by walk_at "m_sub")) .nil (fmod_bd (by decide) _) hr (fmod_bd (by omega) _)
  | cons x tx hi =>
    rename_i vs rows
    rw [List.length_cons] at hr
    have hvl := hi.length
    walk_at "m_go"
    refine ne_LInil_t (by k_asm) (by k_mem) hi (by k_mem) (by walk_at "m_units") ?_
    k_steps
    refine pop0 (by k_asm) (by k_asm) (by k_upd) (by omega) ?_
    intro h' F' N'
    k_steps
    exact k _ _ _ _ _ _ vs rows seed ts (back _ (N' (L, oL) (by k_mem)).1 F'.keep) (news_back N0 N' (by k_mem) (by k_mem) (by walk_at "m_sub")) hi hs (by omega) (fmod_bd (by omega) _)
end

end
section

local macro_rules | `(tactic| walk_at "m_off") => `(tactic| first
  | exact off2_nil
  | with_reducible assumption
  | (with_reducible refine off2_cons ?_ ?_ ?_; (focus (first | with_reducible assumption | exact Ne.symm (by with_reducible assumption) | omega)); (focus (first | with_reducible assumption | exact Ne.symm (by with_reducible assumption) | omega)); walk_at "m_off")
  | (with_reducible refine off2_app ?_ ?_ <;> walk_at "m_off"))

local macro_rules | `(tactic| walk_at "call ref") => `(tactic| (refine stop_of ?_))
local macro_rules | `(tactic| walk_at "exec Assign cons ListComp") => `(tactic| (k_here; k_dflt (refine PyProof.Rows.LCt.Assign_ListComp_T (F₀ := by k_asm) (by rfl) (by with_unfolding_all rfl) (by with_unfolding_all rfl) (by decide) (by rfl) (by decide) (by rfl) (by rfl) (by rfl) ?_)))
local macro_rules | `(tactic| walk_at "CompSrcT") => `(tactic| (refine stop_of ?_))
local macro_rules | `(tactic| walk_at "eval IfExp") => `(tactic| (refine stop_of ?_))
local macro_rules | `(tactic| walk_at "exec For Name Call cons nil") => `(tactic| (k_here; k_dflt (refine For_turns (by k_asm) ?_)))
local macro_rules | `(tactic| walk_at "call builtin:sorted") => `(tactic| (refine stop_of ?_))
local macro_rules | `(tactic| walk_at "subscriptTail Name UnaryOp ref int") => `(tactic| (refine stop_of ?_))
local macro_rules | `(tactic| walk_at "CompSrc") => `(tactic| (refine stop_of ?_))
local macro_rules | `(tactic| walk_at "compareOp Eq ref ref") => `(tactic| (refine stop_of ?_))
local macro_rules | `(tactic| walk_at "subscriptTail Name Slice ref ref") => `(tactic| ((with_reducible show wpAny _ _ (subscriptTail (PySem.Expr.Name (Str.ofString "choices") _) _ _ _) _ _ _); refine stop_of ?_))
local macro_rules | `(tactic| walk_at "eval Name") => `(tactic| ((with_reducible show wpAny _ _ (eval _ (compEnvC _ _ _ _)) _ _ _); k_dflt (first | refine lcf_free (by k_asm) (by rfl) (by k_mem) (by k_asm) ?_ (by rfl) (by rfl) | refine LCgL.ld_global (by k_asm) (by k_asm) (by k_asm) (by k_is) ?_)))
local macro_rules | `(tactic| walk_at "HPost") => `(tactic| dsimp only [HPost])
local macro_rules | `(tactic| walk_at "compareOp NotEq ref ref") => `(tactic| (refine stop_of ?_))
local macro_rules | `(tactic| walk_at "call builtin:list.pop") => `(tactic| (refine stop_of ?_))
set_option maxHeartbeats 4000000 in
theorem holds_all : PySem.Challenge.rw_nn0259_01.Holds := Mine.hd (by
  k_go0
  rename_i w s0 s1 mg mb G Y fa o pm doc ho hgen hX hV hT hB hTE hTW hcd nsc hs hlay hL0 hr0 hl2 as1 as2 sc vsc as3 hL hra hw1 hr1 hI9 hr9 hc1 hc2 hD9 h1 tk1 oa ob oc da db dc X0 X T K1 F1 N1 l0
  have hlen9 : nsc.length < 500 := by omega
  clear G Y hX hV hT hB hTE hTW hcd hs hlay hL0 hr0 hl2 hL hra hw1 hr1 hr9 hD9 X0
  generalize ghostOf _ _ = g at *
  generalize s1.heap.objs.size = L at *
  have C : Cx _ callerA g [] topProg _ _ _ _ 20 g := ⟨K1, rfl, by decide, by decide, X, T⟩
  have hu64 : callerA.units + 3 + 66 < cLine := by have := C.un; omega
  walk_at "m_go"
  refine c_draws (by walk_at "m_cx") (lifted.at fun o e => (Fr.keep (by k_asm)) _ _ e) hI9 hlen9 ?_
  intro h' tk' dr rr nd nr vsr rows seed tsd kp' hd1 hd2 hr1 hr2 hrd hir hs1 hs2 hrl
  have F' := Fr.after (by k_asm) kp'
  have N' := news_addP (by k_asm) (by k_asm) kp' hd1 hd2 hr1 hr2
  have hned := ne_new (by k_asm) hd2
  have hner := ne_new (by k_asm) hr2
  simp only [List.forall_mem_cons] at hned hner
  obtain ⟨d3, d2, d1, d0, -⟩ := hned
  obtain ⟨r3, r2, r1, r0, -⟩ := hner
  have hdr : @Ne Nat dr rr := fun e => hrd e.symm
  have e32 : @Ne Nat (L + 1 + 1 + 1) (L + 1 + 1) := y_s1 _
  have e31 : @Ne Nat (L + 1 + 1 + 1) (L + 1) := y_s2 _
  have e21 : @Ne Nat (L + 1 + 1) (L + 1) := y_s1 _
  have e1T : @Ne Nat (L + 1) 209 := y_t1 l0
  have e2T : @Ne Nat (L + 1 + 1) 209 := y_t2 l0
  have e3T : @Ne Nat (L + 1 + 1 + 1) 209 := y_t3 l0
  clear kp' hd1 hd2 hr1 hr2
  k_steps
  rename_i h3 oD dD h4 F4 N4 l4
  refine c_take (led := (l', _) :: (L + 1 + 1 + 1, oa) :: (L + 1 + 1, ob) :: (L + 1, oD) :: [(209, tabObj #[])]) (by walk_at "m_cx") X T F4 (cb_drop N4 (by walk_at "m_sub")) (by walk_at "m_off") hdr hir ⟨hs1, hs2⟩ hrl ⟨by decide, by decide⟩ ?_
  intro h5 tk5 v tv n' n2' vs' rows' seed' ts' F5 N5 hi5 hs5 hr5 hv5
  k_steps
  rename_i t6 h6 oP F6 N6 dP
  obtain ⟨q, hqe⟩ : ∃ q, q = ([2, 3, 5] : List Int).getD v.toNat 0 := ⟨_, rfl⟩
  have hq := menu_p hv5
  rw [← hqe] at hq dP
  clear hqe hv5
  refine m_ifc ?_
  k_steps
  intro t7 tk7
  k_steps
  generalize hmn : (if decide (2 < q) = true then (2 : Int) else 3) = mn
  have hmn1 := size_b hmn
  refine c_take (led := (L + 1 + 1 + 1, oa) :: (L + 1 + 1, oP) :: (L + 1, oD) :: [(209, tabObj #[])]) (by walk_at "m_cx") X T F6 (cb_drop N6 (by walk_at "m_sub")) (by walk_at "m_off") hdr hi5 hs5 hr5 hmn1 ?_
  clear hi5 hs5 hr5 hir hs1 hs2 hrl
  intro h8 tk8 v2 tv2 n8 n82 vs8 rows8 seed8 ts8 F8 N8 hi8 hs8 hr8 hv8
  obtain ⟨m, hme, hm⟩ := size_m hq hmn hv8
  have hmb := m3 hm
  clear hmn hmn1
  k_steps
  rename_i h9 oS F9 N9 dS
  obtain rfl : v2 = (m : Int) - 1 := y_sub1 hme
  have dS2 : ∃ ty, oS.data = .cell (some (.int (m : Int) ty)) := ⟨_, by rw [← hme]; exact dS⟩
  clear dS hme hv8
  obtain ⟨tS, dS⟩ := dS2
  rw [y_one_sub]
  refine c_lprimes (by walk_at "m_cx") hq hm ?_
  intro h' tk' rp hR'
  obtain ⟨kp', rsp, npp, vl, hl', fr', hvl', hls, hor, hxs⟩ := hR'
  have hneP := ne_new (by k_asm) fr'
  have hoff := off_fresh (adr := [dr, rr]) N9 (fun p hp => (hvl' p hp).2) (by intro b hb; simp only [List.mem_cons, List.not_mem_nil, or_false] at hb; rcases hb with rfl | rfl; exact ⟨_, .head _⟩; exact ⟨_, .tail _ (.head _)⟩)
  have F' := Fr.after (by k_asm) kp'
  have N' := news_swap (news_addL (by k_asm) (by k_asm) kp' hl' fr' hvl')
  simp only [List.cons_append, List.nil_append] at N'
  simp only [List.forall_mem_cons] at hneP
  obtain ⟨p5, p4, p3, p2, p1, p0, -⟩ := hneP
  clear kp' hl' fr' hvl'
  have hpr := primesL_ok hq hm m (Nat.le_refl m)
  have hprl := hxs.len
  have hprz : rsp.length < 2000 := y_pr hm hprl hpr.2
  k_steps
  refine filt_src (vl := vl) (fun x => decide (x.length = m + 1)) rfl (by k_asm) (by k_asm) (by k_mem) (by walk_at "m_sub") hxs hprz ?_ ?_ ?_
  · intro a x I oI C8 oC D ys m₂ h tk E' hax hxm hC hma F N
    have hax2 : LX g vl a x := hax.lx
    have hx4 := (hpr.1 x hxm).2.2.2
    k_steps
    refine TEnd.intro ?_ (by k_asm) (by k_asm) (by walk_at "m_sub")
    by_cases hxm1 : x.length = m + 1
    · rw [decide_eq_true hxm1]; simp [hxm1]
    · rw [decide_eq_false hxm1]; simp; omega
  · intro v I oI C8 oC D ys m₂ h tk E' Q' hC hma F N hQ
    k_steps
    exact hQ
  · intro h3 rs' hrs' hsub
    have hpool : (primesL q m).filter (fun x => decide (x.length = m + 1)) = poolL q m := rfl
    rw [hpool] at hrs'
    clear hpool hsub hxs hpr hprl hprz
    k_steps
    refine m_ifc ?_
    k_steps
    intro t9 tk9
    k_steps
    rename_i dp h10 tk10 oDp dd h11 l11 h12 l12 D13 h13 l13 h14 h15 h16 F16 N16
    obtain ⟨o0, oDr, oRr, o3, o2, o1, o209, oV⟩ := oDp
    have lDp : dp < dd := l11.1
    obtain ⟨-, -, a3, a4, a5, a6, a7, a8, -⟩ := id l11
    clear p5 p4 p3 p2 p1 p0
    generalize hmn : (if ((m : Int) == 1) = true then (3 : Int) else 2) = mn
    have hmn1 := y_turn hmn
    refine c_take (led := (l', _) :: (dd, listOf (refs []).toArray 0) :: (dp, listOf (refs rs').toArray (refs rs').length) :: (L + 1 + 1 + 1, oS) :: (L + 1 + 1, oP) :: (L + 1, oD) :: (209, tabObj #[]) :: vl) (by walk_at "m_cx") X T F16 (cb_drop N16 (by walk_at "m_sub")) (by walk_at "m_off") hdr hi8 hs8 hr8 (y_turn_b hmn1) ?_
    clear hi8 hs8 hr8 hmn
    intro h17 tk17 v3 tv3 n17 n172 vs17 rows17 seed17 ts17 F17 N17 hi17 hs17 hr17 hv17
    k_steps
    rename_i h18 tk18 ta tb tc hR18 F18 N18 K18
    obtain ⟨nT, hnT, hnT2, hnT3⟩ := y_turn_n hmn1 hv17
    clear hmn1
    rw [hnT] at hR18
    clear hnT hv17
    refine m_rangeT (σ := LSt) (fixed := [(209, tabObj #[])]) nT (fun c => (dr, listOf #[.ref rr, .int c.seed c.ts] c.n) :: (rr, listOf c.vs.toArray c.n2) :: (dd, listOf (refs c.rs2).toArray c.nd) :: (dp, listOf (refs c.rs1).toArray c.np) :: (L + 1 + 1 + 1, oS) :: (L + 1 + 1, oP) :: (L + 1, oD) :: c.vl)
      (fun c => [(Str.ofString "pool", .ref dp), (Str.ofString "due", .ref dd), (Str.ofString "whole", .ref c.aw)])
      (fun i c => IntsAre c.vs c.rows ∧ (0 ≤ c.seed ∧ c.seed < 2147483647) ∧ c.rows.length < 500 ∧ Lists c.vl ∧ OwnOff c.vl [dr, rr, dd, dp] ∧ All2 (LD c.vl) c.rs1 c.pl ∧ All2 (LD c.vl) c.rs2 c.dl ∧ LD c.vl c.aw (prodL q c.dl) ∧ (c.dl ++ c.pl).Perm (poolL q m) ∧ c.dl.length ≤ i ∧ (1 ≤ i → c.pl = [] ∨ 1 ≤ c.dl.length))
      ⟨n17, n172, vs17, rows17, seed17, ts17, rs', _, poolL q m, [], 0, [], l', (l', listOf #[.int 1 tk10] 0) :: vl⟩ rfl (by k_asm)
      (y_small (Nat.le_trans hnT2.2 (by decide))) (y_size _) (by exact F18) (cb_drop N18 (by walk_at "m_sub")) (.cons .list (.cons .list (.cons .list (.cons .list (.cons (.cell dS) (.cons (.cell dP) (.cons (.cell dD) (.cons .list (.lists hls))))))))) (by walk_at "m_binds")
      ⟨hi17, hs17, hr17, .cons hls, ?_, hrs'.mono (fun _ _ y => y.mono fun p hp => .tail _ hp), trivial, .mk (vs := [.int 1 tk10]) (.head _) (.cons _ _ .nil), List.Perm.refl _, Nat.le_refl _, fun h => absurd h (by decide)⟩ ?_ ?_
    · exact off4_cons (Nat.ne_of_gt l12.2.2.2.1) (Nat.ne_of_gt l12.2.2.2.2.1) (Nat.ne_of_gt l12.1) (Nat.ne_of_gt l12.2.1) (off4_of hoff (by exact l11.2.2.2.2.2.2.2.2) oV)
    · rintro ⟨n, n2, vs, rows, seed, ts, rs1, np, pl, rs2, nd, dl, aw, vl2⟩ i t u h tk own hi ⟨hi1, hs1, hr1, hl1, ho1, hp1, hd1, hw1, hpm, hdi, hdj⟩ hpc ho F N
      dsimp only at hi1 hs1 hr1 hl1 ho1 hp1 hd1 hw1 hpm hdi hdj hpc ho F N ⊢
      replace F : Fr g L h _ := F
      replace N : News g L h _ := N
      simp only [List.cons_append, List.nil_append] at ho N
      have ho2 : OwnOff vl2 [dr, rr] := off_sub ho1 (by simp)
      have ho3 : OwnOff vl2 [dd, dp] := off_sub ho1 (by simp)
      have ho4 : OwnOff vl2 [dp, dd] := off_sub ho1 (by simp)
      have hoo2 : OwnOff own [dr, rr] := off_led ho (by simp)
      have hoo3 : OwnOff own [dd, dp] := off_led ho (by simp)
      have hple : ∀ x ∈ dl ++ pl, PrOk q x ∧ x.length = m + 1 := fun x hx => poolL_ok hq hm (hpm.mem_iff.mp hx)
      have hpz := hpm.length_eq
      have hpz2 : (poolL q m).length ≤ 75 := Nat.le_trans (List.length_filter_le _ _) (y_pr75 hm (primesL_ok hq hm m (Nat.le_refl m)).2)
      rw [List.length_append] at hpz
      have hr1l := hp1.len
      have hr2l := hd1.len
      have hz1 : rs1.length < 2000 := y_len1 hr1l hpz hpz2
      have hz2 : rs2.length < 1900 := y_len2 hr2l hpz hpz2
      k_steps
      refine ne_LLnil (by k_asm) (by k_mem) hp1 (by walk_at "m_sub") (by k_mem) (by show callerA.units + 3 + 64 < cLine; exact y_un hu64) ?_
      rcases pl with _ | ⟨x0, pl0⟩
      · rw [show (!decide (([] : List (List Int)) = [])) = false by simp]
        k_steps
        refine HEnd.intro (σ := LSt) ⟨n, n2, vs, rows, seed, ts, rs1, np, [], rs2, nd, dl, aw, vl2⟩ (by k_asm) (by k_asm) (by walk_at "m_sub") (by walk_at "m_sub") hpc (by walk_at "m_binds")
          ⟨hi1, hs1, hr1, hl1, ho1, hp1, hd1, hw1, hpm, Nat.le_succ_of_le hdi, fun _ => .inl rfl⟩
      · rw [show (!decide ((x0 :: pl0 : List (List Int)) = [])) = true by simp]
        have hr1p : 1 ≤ rs1.length ∧ rs1.length ≤ 100 := y_len3 hr1l hpz hpz2
        k_steps
        rename_i l20 h20 l21 F20 N20
        refine c_take (led := (dd, listOf (refs rs2).toArray nd) :: (dp, listOf (refs rs1).toArray np) :: (L + 1 + 1 + 1, oS) :: (L + 1 + 1, oP) :: (L + 1, oD) :: (vl2 ++ (209, tabObj #[]) :: own)) (by walk_at "m_cx") X T (by k_asm) (cb_drop (by k_asm) (by walk_at "m_sub")) (by walk_at "m_off") hdr hi1 hs1 hr1 (y_cast hr1p) ?_
        clear hi1 hs1 hr1
        intro h22 tk22 v4 tv4 n22 n222 vs22 rows22 seed22 ts22 F22 N22 hi22 hs22 hr22 hv22
        obtain ⟨j, rfl⟩ := Int.eq_ofNat_of_zero_le hv22.1
        have hj : j < rs1.length := Int.ofNat_lt.mp hv22.2
        k_steps
        refine popAt_refs (i := j) (by k_asm) (by k_asm) (by k_upd) hj hz1 ?_
        intro h23 F23 N23
        obtain ⟨xa, hxa1, hxa2⟩ := hp1.at (List.getElem?_eq_getElem hj)
        obtain ⟨a, ha⟩ : ∃ a, a = rs1.getD j 0 := ⟨_, rfl⟩
        have ha2 : a = rs1[j] := by rw [ha, List.getD_eq_getElem?_getD, List.getElem?_eq_getElem hj]; rfl
        rw [← ha2] at hxa2
        rw [← ha]
        have hax : LX g vl2 a xa := hxa2.lx
        have hwx : LX g vl2 aw (prodL q dl) := hw1.lx
        have hxm := hple xa (List.mem_append_right _ (List.mem_of_getElem? hxa1))
        have hx1 := hxm.1.1
        have hx4 := hxm.1.2.2.2
        have hpk := prodL_ok (q := q) (y_q2 hq) (k := m + 1) (S := dl) (fun x hx => (hple x (List.mem_append_left _ hx)).2)
        have hpd := hpk.1.1
        have hpl : (prodL q dl).length < 100 := y_pl hm hnT3 hdi hi hpk.2
        have hx100 : xa.length < 100 := Nat.lt_trans hx4 (by decide)
        k_steps
        rename News _ _ _ _ => N24
        rename Fr _ _ _ _ => F24
        rw [refs_snoc] at N24
        refine sub_lastrefs (a := a) (rs := rs2) (N24 (dd, listOf (refs (rs2 ++ [a])).toArray (nd + 1)) (by k_mem)).1 (Nat.lt_trans hz2 (by decide)) ?_ (by with_unfolding_all rfl)
        k_steps
        refine c_ltimes (by walk_at "m_cx") (hwx.li F24 N24 (by walk_at "m_sub")) (hax.li F24 N24 (by walk_at "m_sub")) hpl hx100 hq hpd hx1 ?_
        intro h25 tk25 r25 hR25
        obtain ⟨kp25, ⟨vs25, n25, hl25, hi25⟩, fr25⟩ := hR25
        have hne25 := ne_new N24 fr25
        have F25 := Fr.after F24 kp25
        have N25 := news_add F24 N24 kp25 hl25 fr25
        simp only [List.forall_mem_cons] at hne25
        obtain ⟨e1, e2, e3, e4, -⟩ := hne25
        clear kp25 hl25 fr25 N24 F24
        k_steps
        refine HEnd.intro (σ := LSt) ⟨n22, n222, vs22, rows22, seed22, ts22, rs1.eraseIdx j, np + 1, (x0 :: pl0).eraseIdx j, rs2 ++ [a], nd + 1, dl ++ [xa], r25, (r25, listOf vs25.toArray n25) :: vl2⟩ (by k_asm) (by k_asm) (by walk_at "m_sub") (by walk_at "m_sub")
          (.cons .list (.cons .list (.cons .list (.cons .list (.cons (.cell dS) (.cons (.cell dP) (.cons (.cell dD) (.cons .list (.lists hl1))))))))) (by walk_at "m_binds")
          ⟨hi22, hs22, hr22, .cons hl1, off4_cons (Ne.symm e1) (Ne.symm e2) (Ne.symm e3) (Ne.symm e4) ho1, (hp1.mono fun _ _ y => y.mono fun p hp => .tail _ hp).erase j, (hd1.mono fun _ _ y => y.mono fun p hp => .tail _ hp).snoc (hxa2.mono fun p hp => .tail _ hp), ?_, pool_step hpm hxa1, by dsimp only; rw [List.length_append]; exact Nat.succ_le_succ hdi, fun _ => .inr (by dsimp only; rw [List.length_append]; exact Nat.le_add_left _ _)⟩
        rw [prodL_snoc]
        exact .mk (.head _) hi25
    · rintro ⟨n, n2, vs, rows, seed, ts, rs1, np, pl, rs2, nd, dl, aw, vl2⟩ u h tk ⟨hi1, hs1, hr1, hl1, ho1, hp1, hd1, hw1, hpm, hdi, hdj⟩ F N
      dsimp only at hi1 hs1 hr1 hl1 ho1 hp1 hd1 hw1 hpm hdi hdj F N ⊢
      simp only [List.cons_append, List.nil_append] at N
      replace F : Fr g L h _ := F
      replace N : News g L h _ := N
      revert F N
      repeat (rename Fr _ _ _ _ => FX; clear FX)
      repeat (rename News _ _ _ _ => NX; clear NX)
      intro F N
      clear da db dc hR18 K18
      clear hrs' oV hoff hls hi17 hs17 hr17
      have hG := good_of hq hm hpm (hdj hnT2.1) hdi hnT3
      have hdx : ∀ x ∈ dl, PrOk q x ∧ x.length = m + 1 := fun x hx => poolL_ok hq hm (hG.2.2.1 x hx)
      have hoA : OwnOff vl2 [dr, rr] := off_sub ho1 (by simp)
      replace N := news_rot (A := [(dr, listOf #[.ref rr, .int seed ts] n), (rr, listOf vs.toArray n2), (dd, listOf (refs rs2).toArray nd), (L + 1 + 1 + 1, oS), (L + 1 + 1, oP), (L + 1, oD)]) (cb_drop N (by walk_at "m_sub"))
      simp only [List.cons_append, List.nil_append] at N
      clear hp1 hpm hdj hdi hnT2 hnT3
      have hoT : OwnOff vl2 [209] := off_tab N (by k_mem) (by walk_at "m_sub") hl1
      have l209 : @LT.lt Nat _ 209 dd := l11.2.2.2.2.2.2.2.1
      have ldL : @Ne Nat dr dd := Nat.ne_of_lt l11.2.2.1
      k_steps
      rename_i fl c2 oc2 vs9 t9' ct9 h27 tk27 F27 N27 dl1 dl2 l27 l28
      refine m_sorted (P := LD vl2) (k := m + 1) (fun a x hx => (hx.mono (by walk_at "m_sub")).lx) F27 N27 (N27 (dd, listOf (refs rs2).toArray nd) (by k_mem)).1 hd1 (fun x hx => (hdx x hx).2) hG.2.1 ⟨List.length_pos_iff.mpr hG.1, y_g3 hG⟩ (by show callerA.units + 3 + 66 < cLine; exact hu64) ?_ ?_
      · intro h tk a x Q' E' F N hl hx k9
        have hcr := codeRec_news N (.tail _ (.head _)) dl1 dl2
        have hlm := (N _ (.head _)).1
        dsimp only at hlm
        refine' enterL (d := 1) [(Str.ofString "one", .ref a)] (Cx.mono ((Cx.step C F rfl rfl).in1.in1) (by decide)) hlm hcr ?k1 ?k2 ?kz ?k3 ?k4 ?k5 ?k6
        case k1 => rfl
        case k2 => exact locs rfl
        case k3 => rfl
        case k4 => rfl
        case k5 => rfl
        case k6 => decide
        clear hcr hlm F N
        intro g2 L2 h2 hg2 C2 F2 N2
        dsimp only at hg2
        have B2 := C2.B
        have T2 := C2.T
        have X2 := C2.X
        rw [← hg2] at hl
        obtain ⟨va, la, ia⟩ := hl.list
        have hxz := ia.length
        clear C2
        walk_at "m_go"
        rename_i R5 ws5 h5 hI5 hC5 l5 T5 h6 F6 N6 l6
        rw [hx] at N6
        exact k9 _ _ _ _ _ (hg2 ▸ F6.keep) (N6 _ (.head _)).1 (hg2 ▸ (N6 _ (.head _)).2.2) (LI.news N6 (.tail _ (.head _)) hI5) (hg2 ▸ (N6 _ (.tail _ (.head _))).2.2)
      · intro D h' tk' c' rs' ys F' N' l1 hys hperm' hsrt hsub
        have gD : ∀ q ∈ [dr, rr], @Ne Nat D q := by
          intro q hq
          simp only [List.mem_cons, List.not_mem_nil, or_false] at hq
          rcases hq with rfl | rfl
          · exact Nat.ne_of_gt (l1 (_, listOf #[.ref rr, .int seed ts] n) (by k_mem))
          · exact Nat.ne_of_gt (l1 (_, listOf vs.toArray n2) (by k_mem))
        have gD1 := gD _ (.head _)
        have gD2 := gD _ (.tail _ (.head _))
        clear gD
        k_steps
        rename_i h29 h29b l29 h29c F29 N29
        obtain ⟨b1, -, -, b4, b5, -, b7, b8, b9, b0, -⟩ := id l29
        obtain ⟨lc, rfl⟩ : ∃ x, x = l' := ⟨_, rfl⟩
        have gl1 : @Ne Nat lc dr := Nat.ne_of_gt l29.2.2.2.1
        have gl2 : @Ne Nat lc rr := Nat.ne_of_gt l29.2.2.2.2.1
        obtain ⟨psT, hpsT⟩ := tab_of (N29 (209, tabObj _) (by k_mem))
        refine c_take (led := (lc, listOf #[] 0) :: (D, listOf (refs rs').toArray c') :: (L + 1 + 1 + 1, oS) :: (L + 1 + 1, oP) :: (L + 1, oD) :: (209, tabObj psT) :: vl2) (by walk_at "m_cx") X T F29 (cb_drop (news_ins N29 hpsT) (by walk_at "m_sub")) (by walk_at "m_off") hdr hi1 hs1 hr1 ⟨by decide, by decide⟩ ?_
        clear hi1 hs1 hr1 F29 N29 l1
        intro h30 tk30 v5 tv5 n30 n302 vs30 rows30 seed30 ts30 F30 N30 hi30 hs30 hr30 hv5
        obtain ⟨nC, rfl⟩ := Int.eq_ofNat_of_zero_le hv5.1
        have hC4 : nC < 4 := Int.ofNat_lt.mp hv5.2
        clear hv5
        k_steps
        rename_i h31 tk31 ua ub uc hR31 F31 N31 K31
        refine m_rangeT (σ := CSt) (fixed := (209, tabObj psT) :: vl2) nC (fun c => (dr, listOf #[.ref rr, .int c.seed c.ts] c.n) :: (rr, listOf c.vs.toArray c.n2) :: (lc, listOf (refs c.rc).toArray c.nc) :: (D, listOf (refs rs').toArray c') :: (L + 1 + 1 + 1, oS) :: (L + 1 + 1, oP) :: (L + 1, oD) :: c.vl)
          (fun c => [(Str.ofString "choices", .ref lc), (Str.ofString "due", .ref D), (Str.ofString "whole", .ref aw)])
          (fun i c => IntsAre c.vs c.rows ∧ (0 ≤ c.seed ∧ c.seed < 2147483647) ∧ c.rows.length < 500 ∧ Lists c.vl ∧ OwnOff c.vl [dr, rr, lc] ∧ All2 (LD c.vl) c.rc c.cs ∧ (∀ x ∈ c.cs, Po q x ∧ x.length < 100) ∧ c.cs.length ≤ i)
          ⟨n30, n302, vs30, rows30, seed30, ts30, [], 0, [], []⟩ rfl (by k_asm)
          (y_small (Nat.le_of_lt (Nat.lt_trans hC4 (by decide)))) (y_size _) (by exact F31) (cb_drop N31 (by walk_at "m_sub")) (.cons .list (.cons .list (.cons .list (.cons .list (.cons (.cell dS) (.cons (.cell dP) (.cons (.cell dD) .nil))))))) (by walk_at "m_binds")
          ⟨hi30, hs30, hr30, .nil, fun p hp => (List.not_mem_nil hp).elim, trivial, fun x hx => (List.not_mem_nil hx).elim, Nat.le_refl _⟩ ?_ ?_
        · rintro ⟨n, n2, vs, rows, seed, ts, rc, nc, cs, vl3⟩ i t u h tk own hi ⟨hi1, hs1, hr1, hl3, ho3, hc3, hcp, hci⟩ hpc ho F N
          dsimp only at hi1 hs1 hr1 hl3 ho3 hc3 hcp hci hpc ho F N ⊢
          replace F : Fr g L h _ := F
          replace N : News g L h _ := N
          simp only [List.cons_append, List.nil_append] at ho N
          replace N := news_rot2 (A := [(dr, listOf #[.ref rr, .int seed ts] n), (rr, listOf vs.toArray n2), (lc, listOf (refs rc).toArray nc), (D, listOf (refs rs').toArray c'), (L + 1 + 1 + 1, oS), (L + 1 + 1, oP), (L + 1, oD)]) N
          simp only [List.cons_append, List.nil_append] at N
          have ho32 : OwnOff vl3 [dr, rr] := off_sub ho3 (by simp)
          have hol2 : OwnOff own [dr, rr] := off_led ho (by simp)
          have ho3l : OwnOff vl3 [lc] := off_sub ho3 (by simp)
          have hol : OwnOff own [lc] := off_led ho (by simp)
          have hv2l : OwnOff vl2 [lc] := off_lt l29.2.2.2.2.2.2.2.2.2.2
          have hrc := hc3.len
          have hrz : rc.length < 100 := y_rc hrc hci (Nat.le_of_lt hi) hC4
          clear hpc ho
          k_steps
          rename Fr _ _ _ _ => F40
          rename News _ _ _ _ => N40
          refine c_take (led := (lc, listOf (refs rc).toArray nc) :: (D, listOf (refs rs').toArray c') :: (L + 1 + 1 + 1, oS) :: (L + 1 + 1, oP) :: (L + 1, oD) :: (209, tabObj psT) :: (vl3 ++ (vl2 ++ own))) (by walk_at "m_cx") X T F40 (cb_drop N40 (by walk_at "m_sub")) (by walk_at "m_off") hdr hi1 hs1 hr1 ⟨by decide, by decide⟩ ?_
          clear hi1 hs1 hr1 F40 N40
          intro h41 tk41 v6 tv6 n41 n412 vs41 rows41 seed41 ts41 F41 N41 hi41 hs41 hr41 hv6
          obtain ⟨nD, hnD, hnD2⟩ := y_succ hv6
          clear hv6
          k_steps
          rename_i h42 tk42 wa wb wc hR42 F42 N42 K42
          rw [hnD] at hR42
          refine take_src (q := q) rfl F42 N42 hR42 (y_small (Nat.le_trans hnD2 (by decide))) (y_size _) (by rw [sizeLine_eq]; exact Nat.le_trans hnD2 (by decide)) hi41 hs41 hr41 ?_ ?_
          · clear hi41 hs41 hr41 F42 N42
            intro n n2 vs rows seed ts I oI C8 oC D8 ys8 m₂ h tk E' Q' hi1 hs1 hr1 hC F N hoI hQ
            have i1 : @Ne Nat I dr := hoI (I, oI) (.head _) dr (.head _)
            have i2 : @Ne Nat I rr := hoI (I, oI) (.head _) rr (.tail _ (.head _))
            have i3 : @Ne Nat C8 dr := hoI (C8, oC) (.tail _ (.head _)) dr (.head _)
            have i4 : @Ne Nat C8 rr := hoI (C8, oC) (.tail _ (.head _)) rr (.tail _ (.head _))
            have i5 : @Ne Nat D8 dr := hoI (D8, _) (.tail _ (.tail _ (.head _))) dr (.head _)
            have i6 : @Ne Nat D8 rr := hoI (D8, _) (.tail _ (.tail _ (.head _))) rr (.tail _ (.head _))
            k_steps
            refine c_take (led := (I, oI) :: (C8, oC) :: (D8, LCg.lst ys8) :: (lc, listOf (refs rc).toArray nc) :: (D, listOf (refs rs').toArray c') :: (L + 1 + 1 + 1, oS) :: (L + 1 + 1, oP) :: (L + 1, oD) :: (209, tabObj psT) :: (vl3 ++ (vl2 ++ own))) (by walk_at "m_cx") X T F (cb_drop N (by walk_at "m_sub")) (by walk_at "m_off") hdr hi1 hs1 hr1 (q_b hq) ?_
            intro h' tk' v t n' n2' vs' rows' seed' ts' F' N' i' s' r' hv'
            exact hQ h' tk' v t n' n2' vs' rows' seed' ts' F' (cb_drop N' (by walk_at "m_sub")) i' s' r' hv'
          · clear hi41 hs41 hr41 F42 N42
            intro h₁ n n2 vs rows seed ts ys8 zs hi1 hs1 hr1 hys8 hzs hzl
            unfold LCg.FinE
            intro D8 h tk F N o1
            obtain ⟨x1, x2, x3, -⟩ := o1
            k_steps
            refine c_cut (by walk_at "m_cx") (LI.news (vs := ys8) (ns := zs) N (.head _) hys8) (y_zs hzl hnD2).1 ?_
            intro h50 tk50 r50 hR50
            obtain ⟨kp50, ⟨vs50, n50, hl50, hi50⟩, fr50⟩ := hR50
            have hne50 := ne_new N fr50
            have F50 := Fr.after F kp50
            have N50 := news_add F N kp50 hl50 fr50
            simp only [List.forall_mem_cons] at hne50
            obtain ⟨y0, y1, y2, y3, -⟩ := hne50
            clear kp50 hl50 fr50 F N
            k_steps
            rename Fr _ _ _ _ => F60
            rename News _ _ _ _ => N60
            rw [refs_snoc] at N60
            refine HEnd.intro (σ := CSt) ⟨n, n2, vs, rows, seed, ts, rc ++ [r50], nc + 1, cs ++ [trimL zs], (r50, listOf vs50.toArray n50) :: vl3⟩ F60 N60 (by walk_at "m_sub") (by walk_at "m_sub") (.cons .list (.cons .list (.cons .list (.cons .list (.cons (.cell dS) (.cons (.cell dP) (.cons (.cell dD) (.cons .list (.lists hl3))))))))) (by walk_at "m_binds")
              ⟨hi1, hs1, hr1, .cons hl3, off3_cons (Ne.symm y1) (Ne.symm y2) (Ne.symm y3) ho3, (hc3.mono fun _ _ y => y.mono fun p hp => .tail _ hp).snoc (.mk (.head _) hi50), ?_, by dsimp only; rw [List.length_append]; exact Nat.succ_le_succ hci⟩
            intro x hx
            rcases List.mem_append.mp hx with hx | hx
            · exact hcp x hx
            · rw [List.mem_singleton.mp hx]
              exact ⟨trimL_po hzs, Nat.lt_of_le_of_lt (trimL_len _) (y_zs hzl hnD2).2⟩
        · rintro ⟨n, n2, vs, rows, seed, ts, rc, nc, cs, vl3⟩ u h tk ⟨hi1, hs1, hr1, hl3, ho3, hc3, hcp, hci⟩ F N
          dsimp only at hi1 hs1 hr1 hl3 ho3 hc3 hcp hci F N ⊢
          replace F : Fr g L h _ := F
          replace N : News g L h _ := N
          simp only [List.cons_append, List.nil_append] at N
          clear hi1 hs1 hr1 hi30 hs30 hr30
          replace N := news_rot2 (A := [(dr, listOf #[.ref rr, .int seed ts] n), (rr, listOf vs.toArray n2), (lc, listOf (refs rc).toArray nc), (D, listOf (refs rs').toArray c'), (L + 1 + 1 + 1, oS), (L + 1 + 1, oP), (L + 1, oD)]) N
          simp only [List.cons_append, List.nil_append] at N
          have EL := eq_law hq hm
          have hrc := hc3.len
          have hrz : rc.length < 100 := y_rc hrc hci (Nat.le_refl _) hC4
          have hpo := EL.po hG
          have hnd := hG.2.1
          have hdl : dl.length ≤ 3 := y_g3 hG
          have hdm : ∀ x ∈ dl, x.length = m + 1 := fun x hx => (hdx x hx).2
          have hmo := good_monic hq hm hG
          k_steps
          refine c_equal (by walk_at "m_cx") (hw1.lx.li F N (by walk_at "m_sub")) ⟨rc, nc, (N (lc, listOf (refs rc).toArray nc) (by k_mem)).1, ll_li hc3 N (by walk_at "m_sub")⟩ hpo.2.1 hcp hm hq hpo.1 EL hG hmo hnd hdl hdm ?_
          intro h51 tk51 r51 ys51 hR51 hp51 hs51
          obtain ⟨kp51, rs51, np51, vl51, hl51, fr51, hvl51, hls51, hor51, hxs51⟩ := hR51
          have F51 := Fr.after F kp51
          have N51 := news_swap (news_addL F N kp51 hl51 fr51 hvl51)
          simp only [List.cons_append, List.nil_append, List.append_assoc] at N51
          rw [srt_uniq (hp51.trans hperm'.symm) hs51 hsrt] at hxs51
          clear kp51 hl51 fr51 hvl51 hp51 hs51 F N
          k_steps
          refine ne_LL (N51 (r51, listOf (refs rs51).toArray np51) (by k_mem)).1 (ll_li hxs51 N51 (by walk_at "m_sub")) (N51 (D, listOf (refs rs').toArray c') (by k_mem)).1 (ll_li hys N51 (by walk_at "m_sub")) (by show callerA.units + 3 + 64 < cLine; exact y_un hu64) ?_
          rw [show (!decide (ys = ys)) = false by simp]
          k_steps
          rename Fr _ _ _ _ => F60
          rename News _ _ _ _ => N60
          refine c_equal (cs := []) (by walk_at "m_cx") (hw1.lx.li F60 N60 (by walk_at "m_sub")) ⟨[], 0, (N60 (l', listOf #[] 0) (by k_mem)).1, trivial⟩ hpo.2.1 (fun x hx => (List.not_mem_nil hx).elim) hm hq hpo.1 EL hG hmo hnd hdl hdm ?_
          intro h52 tk52 r52 ys52 hR52 hp52 hs52
          obtain ⟨kp52, rs52, np52, vl52, hl52, fr52, hvl52, hls52, hor52, hxs52⟩ := hR52
          have F52 := Fr.after F60 kp52
          have N52 := news_swap (news_addL F60 N60 kp52 hl52 fr52 hvl52)
          simp only [List.cons_append, List.nil_append, List.append_assoc] at N52
          rw [srt_uniq (hp52.trans hperm'.symm) hs52 hsrt] at hxs52
          clear kp52 hl52 fr52 hvl52 hp52 hs52 F60 N60
          k_steps
          refine ne_LL (N52 (r52, listOf (refs rs52).toArray np52) (by k_mem)).1 (ll_li hxs52 N52 (by walk_at "m_sub")) (N52 (D, listOf (refs rs').toArray c') (by k_mem)).1 (ll_li hys N52 (by walk_at "m_sub")) (by show callerA.units + 3 + 64 < cLine; exact y_un hu64) ?_
          rw [show (!decide (ys = ys)) = false by simp]
          k_steps
          refine' krv_lit (its := (refs rc).toArray) (zs := refs rc.reverse) ?v61F ?v61N ?v61l ?v61k ?v61e ?_ ?v61s ?v61t ?v61z
          case v61F => k_asm
          case v61N => k_asm
          case v61l => exact News.isList N52 (by k_mem)
          case v61k => exact IsPart.int _ _
          case v61e => exact refs_rev _
          case v61s => with_unfolding_all rfl
          case v61t => kmk_pure
          case v61z => (simp only [refs, List.size_toArray, List.length_map, sizeLine_eq]; exact Nat.le_trans (Nat.le_of_lt hrz) (by decide))
          intro Dv h61 F61 N61 l61
          k_steps
          refine c_equal (by walk_at "m_cx") (hw1.lx.li F61 N61 (by walk_at "m_sub")) ⟨rc.reverse, 0, (N61 (Dv, listOf (refs rc.reverse).toArray 0) (by k_mem)).1, (ll_li hc3 N61 (by walk_at "m_sub")).rev⟩ hpo.2.1 (fun x hx => hcp x (List.mem_reverse.mp hx)) hm hq hpo.1 EL hG hmo hnd hdl hdm ?_
          intro h53 tk53 r53 ys53 hR53 hp53 hs53
          obtain ⟨kp53, rs53, np53, vl53, hl53, fr53, hvl53, hls53, hor53, hxs53⟩ := hR53
          have F53 := Fr.after F61 kp53
          have N53 := news_swap (news_addL F61 N61 kp53 hl53 fr53 hvl53)
          simp only [List.cons_append, List.nil_append, List.append_assoc] at N53
          rw [srt_uniq (hp53.trans hperm'.symm) hs53 hsrt] at hxs53
          clear kp53 hl53 fr53 hvl53 hp53 hs53 F61 N61
          k_steps
          refine eq_LL (N53 (r53, listOf (refs rs53).toArray np53) (by k_mem)).1 (ll_li hxs53 N53 (by walk_at "m_sub")) (N53 (D, listOf (refs rs').toArray c') (by k_mem)).1 (ll_li hys N53 (by walk_at "m_sub")) (by show callerA.units + 3 + 64 < cLine; exact y_un hu64) ?_
          rw [show (decide (ys = ys)) = true by simp]
          k_steps)

end

end Mine
theorem PySem.Challenge.cw_nn0259_01_holds : PySem.Challenge.rw_nn0259_01.Holds := by
  exact Mine.holds_all
