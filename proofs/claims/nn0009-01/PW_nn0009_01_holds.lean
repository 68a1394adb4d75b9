import PyProof.Rows.All
import Wide.All
import OpenK.AllK
import Wide.FinOn
import PySem.Challenge.RW_nn0009_01
set_option Elab.async false
set_option maxRecDepth 100000
set_option maxHeartbeats 8000000
set_option linter.unusedVariables false
set_option pp.deepTerms false
set_option pp.maxSteps 3000
namespace Mine


def val (B : Int) : List Int → Int
  | [] => 0
  | x :: r => x + B * val B r
def Lim (B : Int) (xs : List Int) : Prop := ∀ x ∈ xs, 0 ≤ x ∧ x < B
structure Row (B : Int) (xs : List Int) (x : Int) : Prop where
  lim : Lim B xs
  top : 0 < xs.length → xs.getD (xs.length - 1) 0 ≠ 0
  val : val B xs = x

theorem val_nil (B : Int) : val B [] = 0 := rfl
theorem val_cons (B x : Int) (r : List Int) : val B (x :: r) = x + B * val B r := rfl
theorem val_append (B : Int) (xs ys : List Int) : val B (xs ++ ys) = val B xs + B ^ xs.length * val B ys := by
  induction xs with
  | nil => simp [val]
  | cons x r ih => simp only [List.cons_append, val_cons, ih, List.length_cons]; grind
theorem Lim.nil {B : Int} : Lim B [] := by intro x hx; cases hx
theorem Lim.cons {B x : Int} {r : List Int} (h : 0 ≤ x ∧ x < B) (hr : Lim B r) : Lim B (x :: r) := by
  intro y hy
  rcases List.mem_cons.mp hy with rfl | hy
  · exact h
  · exact hr y hy
theorem Lim.head {B x : Int} {r : List Int} (h : Lim B (x :: r)) : 0 ≤ x ∧ x < B := h x (.head _)
theorem Lim.tail {B x : Int} {r : List Int} (h : Lim B (x :: r)) : Lim B r := fun y hy => h y (.tail _ hy)
theorem Lim.append {B : Int} {xs ys : List Int} (h : Lim B xs) (k : Lim B ys) : Lim B (xs ++ ys) := by
  intro y hy
  rcases List.mem_append.mp hy with hy | hy
  · exact h y hy
  · exact k y hy
theorem Lim.snoc {B y : Int} {xs : List Int} (h : Lim B xs) (k : 0 ≤ y ∧ y < B) : Lim B (xs ++ [y]) := h.append (Lim.cons k .nil)
theorem Lim.take {B : Int} {xs : List Int} (h : Lim B xs) (k : Nat) : Lim B (xs.take k) := fun y hy => h y (List.mem_of_mem_take hy)
theorem Lim.drop {B : Int} {xs : List Int} (h : Lim B xs) (k : Nat) : Lim B (xs.drop k) := fun y hy => h y (List.mem_of_mem_drop hy)
theorem Lim.replicate {B : Int} (hB : 0 < B) (k : Nat) : Lim B (List.replicate k 0) := fun y hy => by
  rw [(List.mem_replicate.mp hy).2]; omega
theorem Lim.getD {B : Int} {xs : List Int} (hB : 0 < B) (h : Lim B xs) (i : Nat) : 0 ≤ xs.getD i 0 ∧ xs.getD i 0 < B := by
  rw [List.getD_eq_getElem?_getD]
  cases e : xs[i]? with
  | none => simp; omega
  | some v => exact h v (List.mem_of_getElem? e)

theorem pow_pos {B : Int} (hB : 0 < B) (n : Nat) : 0 < B ^ n := Int.pow_pos hB
theorem val_nonneg {B : Int} (hB : 0 < B) : ∀ {xs : List Int}, Lim B xs → 0 ≤ val B xs
  | [], _ => by simp [val]
  | x :: r, h => by
    have h1 := h.head
    have h2 := val_nonneg hB h.tail
    have h3 := Int.mul_nonneg (Int.le_of_lt hB) h2
    rw [val_cons]; omega
theorem val_lt {B : Int} (hB : 0 < B) : ∀ {xs : List Int}, Lim B xs → val B xs < B ^ xs.length
  | [], _ => by simp [val]
  | x :: r, h => by
    have h1 := h.head
    have h2 := val_lt hB h.tail
    rw [val_cons, List.length_cons, Int.pow_succ]
    have h3 : B * (val B r + 1) ≤ B * B ^ r.length := Int.mul_le_mul_of_nonneg_left (by omega) (Int.le_of_lt hB)
    have h4 : B * (val B r + 1) = B * val B r + B := by grind
    have h5 : B ^ r.length * B = B * B ^ r.length := Int.mul_comm _ _
    omega
theorem val_replicate (B : Int) (k : Nat) : val B (List.replicate k 0) = 0 := by
  induction k with
  | zero => rfl
  | succ k ih => rw [List.replicate_succ, val_cons, ih]; simp
theorem val_take_succ (B : Int) (xs : List Int) (i : Nat) : val B (xs.take (i + 1)) = val B (xs.take i) + B ^ i * xs.getD i 0 := by
  rw [List.take_add_one, List.getD_eq_getElem?_getD]
  cases e : xs[i]? with
  | none => simp
  | some v =>
    have hl : i < xs.length := by
      rcases Nat.lt_or_ge i xs.length with h | h
      · exact h
      · rw [List.getElem?_eq_none h] at e; cases e
    rw [val_append]
    simp [val, List.length_take, Nat.min_eq_left (Nat.le_of_lt hl)]
theorem val_split (B : Int) (xs : List Int) (k : Nat) (hk : k ≤ xs.length) : val B xs = val B (xs.take k) + B ^ k * val B (xs.drop k) := by
  have h := val_append B (xs.take k) (xs.drop k)
  rw [List.take_append_drop, List.length_take, Nat.min_eq_left hk] at h
  exact h
theorem val_take_all (B : Int) {xs : List Int} {k : Nat} (h : xs.length ≤ k) : val B (xs.take k) = val B xs := by rw [List.take_of_length_le h]

theorem ediv_emod_unique' {x q r b : Int} (hb : 0 < b) (h : x = r + b * q) (h0 : 0 ≤ r) (h1 : r < b) : x / b = q ∧ x % b = r := (Int.ediv_emod_unique hb).mpr ⟨by omega, h0, h1⟩

theorem val_drop {B : Int} (hB : 0 < B) {xs : List Int} (h : Lim B xs) (k : Nat) : val B (xs.drop k) = val B xs / B ^ k := by
  rcases Nat.lt_or_ge xs.length k with hk | hk
  · rw [List.drop_of_length_le (Nat.le_of_lt hk), val_nil]
    have h1 := val_lt hB h
    have h2 := val_nonneg hB h
    have h3 : B ^ xs.length ≤ B ^ k := by
      have : B ^ k = B ^ xs.length * B ^ (k - xs.length) := by rw [← Int.pow_add]; congr 1; omega
      rw [this]
      have h4 := pow_pos hB (k - xs.length)
      have h5 := pow_pos hB xs.length
      have h6 : B ^ xs.length * 1 ≤ B ^ xs.length * B ^ (k - xs.length) := Int.mul_le_mul_of_nonneg_left (by omega) (by omega)
      omega
    exact (Int.ediv_eq_zero_of_lt h2 (by omega)).symm
  · have e := val_split B xs k hk
    have h1 := val_lt hB (h.take k)
    rw [List.length_take, Nat.min_eq_left hk] at h1
    exact (ediv_emod_unique' (pow_pos hB k) e (val_nonneg hB (h.take k)) h1).1.symm
theorem val_take {B : Int} (hB : 0 < B) {xs : List Int} (h : Lim B xs) (k : Nat) : val B (xs.take k) = val B xs % B ^ k := by
  rcases Nat.lt_or_ge xs.length k with hk | hk
  · rw [List.take_of_length_le (Nat.le_of_lt hk)]
    have h1 := val_lt hB h
    have h2 := val_nonneg hB h
    have h3 := val_drop hB h k
    rw [List.drop_of_length_le (Nat.le_of_lt hk), val_nil] at h3
    have h4 := Int.emod_add_mul_ediv (val B xs) (B ^ k)
    rw [← h3] at h4
    omega
  · have e := val_split B xs k hk
    have h1 := val_lt hB (h.take k)
    rw [List.length_take, Nat.min_eq_left hk] at h1
    exact (ediv_emod_unique' (pow_pos hB k) e (val_nonneg hB (h.take k)) h1).2.symm

theorem val_inj {B : Int} (hB : 0 < B) : ∀ {xs ys : List Int}, Lim B xs → Lim B ys → xs.length = ys.length → val B xs = val B ys → xs = ys
  | [], [], _, _, _, _ => rfl
  | [], _ :: _, _, _, h, _ => by cases h
  | _ :: _, [], _, _, h, _ => by cases h
  | x :: r, y :: t, h1, h2, hl, hv => by
    rw [val_cons, val_cons] at hv
    have a := ediv_emod_unique' (x := x + B * val B r) hB rfl h1.head.1 h1.head.2
    have b := ediv_emod_unique' (x := x + B * val B r) hB hv h2.head.1 h2.head.2
    have e1 : x = y := a.2.symm.trans b.2
    have e2 : val B r = val B t := a.1.symm.trans b.1
    rw [e1, val_inj hB h1.tail h2.tail (by simpa using hl) e2]

theorem Row.nil {B : Int} : Row B [] 0 := ⟨.nil, fun h => absurd h (Nat.lt_irrefl _), rfl⟩
theorem Row.nonneg {B x : Int} {xs : List Int} (hB : 0 < B) (R : Row B xs x) : 0 ≤ x := R.val ▸ val_nonneg hB R.lim
theorem Row.lt {B x : Int} {xs : List Int} (hB : 0 < B) (R : Row B xs x) : x < B ^ xs.length := R.val ▸ val_lt hB R.lim
theorem top_ge {B : Int} (hB : 0 < B) {xs : List Int} (h : Lim B xs) (h0 : 0 < xs.length) (ht : xs.getD (xs.length - 1) 0 ≠ 0) : B ^ (xs.length - 1) ≤ Mine.val B xs := by
  have e := val_take_succ B xs (xs.length - 1)
  rw [show xs.length - 1 + 1 = xs.length by omega, List.take_of_length_le (Nat.le_refl _)] at e
  have h1 := val_nonneg hB (h.take (xs.length - 1))
  have h2 := h.getD hB (xs.length - 1)
  have h3 := pow_pos hB (xs.length - 1)
  have h4 : B ^ (xs.length - 1) * 1 ≤ B ^ (xs.length - 1) * xs.getD (xs.length - 1) 0 := Int.mul_le_mul_of_nonneg_left (by omega) (by omega)
  omega
theorem Row.ge {B x : Int} {xs : List Int} (hB : 0 < B) (R : Row B xs x) (h0 : 0 < xs.length) : B ^ (xs.length - 1) ≤ x := R.val ▸ top_ge hB R.lim h0 (R.top h0)
theorem Row.of_ge {B x : Int} {xs : List Int} (hB : 0 < B) (h : Lim B xs) (hv : Mine.val B xs = x) (hg : 0 < xs.length → B ^ (xs.length - 1) ≤ x) : Row B xs x := by
  refine ⟨h, fun h0 ht => ?_, hv⟩
  have e := val_take_succ B xs (xs.length - 1)
  rw [show xs.length - 1 + 1 = xs.length by omega, List.take_of_length_le (Nat.le_refl _), ht, Int.mul_zero, hv] at e
  have h1 := val_lt hB (h.take (xs.length - 1))
  rw [List.length_take, Nat.min_eq_left (by omega)] at h1
  have := hg h0
  omega
theorem pow_le_pow {B : Int} (hB : 0 < B) {m n : Nat} (h : m ≤ n) : B ^ m ≤ B ^ n := by
  have : B ^ n = B ^ m * B ^ (n - m) := by rw [← Int.pow_add]; congr 1; omega
  rw [this]
  have h4 := pow_pos hB (n - m)
  have h5 := pow_pos hB m
  have h6 : B ^ m * 1 ≤ B ^ m * B ^ (n - m) := Int.mul_le_mul_of_nonneg_left (by omega) (by omega)
  omega
theorem Row.len_le {B x : Int} {xs : List Int} {n : Nat} (hB : 0 < B) (R : Row B xs x) (h : x < B ^ n) : xs.length ≤ n := by
  rcases Nat.lt_or_ge n xs.length with hk | hk
  · have h1 := R.ge hB (by omega)
    have h2 := pow_le_pow hB (m := n) (n := xs.length - 1) (by omega)
    omega
  · exact hk
theorem Row.len_mono {B x y : Int} {xs ys : List Int} (hB : 0 < B) (R : Row B xs x) (S : Row B ys y) (h : x ≤ y) : xs.length ≤ ys.length :=
  R.len_le hB (Int.lt_of_le_of_lt h (S.lt hB))
theorem Row.uniq {B x : Int} {xs ys : List Int} (hB : 0 < B) (R : Row B xs x) (S : Row B ys x) : xs = ys :=
  val_inj hB R.lim S.lim (Nat.le_antisymm (R.len_mono hB S (Int.le_refl _)) (S.len_mono hB R (Int.le_refl _))) (R.val.trans S.val.symm)
theorem Row.nil_of {B : Int} {xs : List Int} (hB : 0 < B) (R : Row B xs 0) : xs = [] := R.uniq hB .nil
theorem Row.pos_of {B x : Int} {xs : List Int} (hB : 0 < B) (R : Row B xs x) (h : xs ≠ []) : 0 < x := by
  have h1 := R.ge hB (List.length_pos_iff.mpr h)
  have h2 := pow_pos hB (xs.length - 1)
  omega
theorem Row.nil_iff {B x : Int} {xs : List Int} (hB : 0 < B) (R : Row B xs x) : xs = [] ↔ x = 0 := by
  constructor
  · rintro rfl; exact R.val.symm
  · rintro rfl; exact R.nil_of hB
theorem Row.drop {B x : Int} {xs : List Int} (hB : 0 < B) (R : Row B xs x) (k : Nat) : Row B (xs.drop k) (x / B ^ k) := by
  refine ⟨R.lim.drop k, fun h0 => ?_, by rw [val_drop hB R.lim, R.val]⟩
  rw [List.length_drop] at h0 ⊢
  have h1 := R.top (by omega)
  rw [List.getD_eq_getElem?_getD, List.getElem?_drop, show k + (xs.length - k - 1) = xs.length - 1 by omega, ← List.getD_eq_getElem?_getD]
  exact h1
/-- normal: behind k all is nought, at k - 1 it is not -/
theorem normal_row {B : Int} (hB : 0 < B) {xs : List Int} {k : Nat} (h : Lim B xs) (hz : ∀ i, k ≤ i → i < xs.length → xs.getD i 0 = 0) (hk : k ≤ xs.length) (ht : 0 < k → xs.getD (k - 1) 0 ≠ 0) : Row B (xs.take k) (Mine.val B xs) := by
  refine ⟨h.take k, fun h0 => ?_, ?_⟩
  · rw [List.length_take, Nat.min_eq_left hk] at h0 ⊢
    have := ht h0
    rw [List.getD_eq_getElem?_getD] at this ⊢
    rw [List.getElem?_take, if_pos (by omega)]
    exact this
  · have e := val_split B xs k hk
    have e2 : xs.drop k = List.replicate (xs.length - k) 0 := by
      refine List.ext_getElem? fun i => ?_
      rw [List.getElem?_drop, List.getElem?_replicate]
      split
      · rename_i hi
        have := hz (k + i) (by omega) (by omega)
        rw [List.getD_eq_getElem?_getD] at this
        have hl : k + i < xs.length := by omega
        rw [List.getElem?_eq_getElem hl] at this ⊢
        simpa using this
      · exact List.getElem?_eq_none (by omega)
    rw [e2, val_replicate] at e
    omega
theorem Row.shift {B x : Int} {xs : List Int} (hB : 0 < B) (R : Row B xs x) (k : Nat) (hx : xs ≠ []) : Row B (List.replicate k 0 ++ xs) (B ^ k * x) := by
  have hp := List.length_pos_iff.mpr hx
  refine Row.of_ge hB ((Lim.replicate hB k).append R.lim) (by rw [val_append, val_replicate, List.length_replicate, R.val]; omega) fun _ => ?_
  rw [List.length_append, List.length_replicate, show k + xs.length - 1 = k + (xs.length - 1) by omega, Int.pow_add]
  exact Int.mul_le_mul_of_nonneg_left (R.ge hB hp) (Int.le_of_lt (pow_pos hB k))
/-- low limbs that are any, above a row that is not empty -/
theorem Row.above {B x : Int} {xs lo : List Int} (hB : 0 < B) (R : Row B xs x) (hl : Lim B lo) (hx : xs ≠ []) : Row B (lo ++ xs) (Mine.val B lo + B ^ lo.length * x) := by
  have hp := List.length_pos_iff.mpr hx
  refine Row.of_ge hB (hl.append R.lim) (by rw [val_append, R.val]) fun _ => ?_
  rw [List.length_append, show lo.length + xs.length - 1 = lo.length + (xs.length - 1) by omega, Int.pow_add]
  have h1 := Int.mul_le_mul_of_nonneg_left (R.ge hB hp) (Int.le_of_lt (pow_pos hB lo.length))
  have h2 := val_nonneg hB hl
  omega
theorem Row.take {B x : Int} {xs : List Int} (hB : 0 < B) (R : Row B xs x) (k : Nat) : Lim B (xs.take k) ∧ Mine.val B (xs.take k) = x % B ^ k := ⟨R.lim.take k, by rw [val_take hB R.lim, R.val]⟩


end Mine
open PySem PySem.W PySem.Spec PySem.Calls PyProof.Rows
namespace Mine
set_option maxHeartbeats 0

def vw : Program := view PySem.Challenge.rw_nn0009_01.row.prog [1, 2, 3, 4, 5, 6, 7, 8, 9, 10, 11, 12, 13, 15, 16, 17, 18, 19, 20, 22, 23, 24, 25, 26, 27, 28, 29, 30, 31]
local macro_rules | `(tactic| o_head $H) => `(tactic| (
  refine holds_open (q := vw) (loose := []) (Xt := fun s => xlAt vw [] s && recOk (RowW.records PySem.Challenge.rw_nn0009_01.row.toRowW) s) (XP := XL vw []) (Yf := Hook.obs $H) (Ya := Hook.val $H) (YP := Hook.says $H) (N := 3140) ?hl (Hook.of $H) (Hook.keeps $H) (fun s e => xl_of s (Bool.and_eq_true_iff.mp e).1) XL.keeps (by rfl) (by rfl) (by rfl) (fun s e => recFacts_of (Bool.and_eq_true_iff.mp e).2) (by rfl) (by first | assumption | decide +kernel) (by decide +kernel) ⟨rfl, rfl, rfl, rfl, rfl, by decide +kernel⟩ ?hw ?hc
  case' hl => (intro w; unfold openEnds fencedOpening topFrom; rw [Fast.te14364793385576792824, Fast.te10274390034422433532, Fast.te1435165496053646825, Fast.te14289696077712309145, Fast.te14082659384304107361, Fast.te4187177175401517315, Fast.te5923862056798008813]; kernel_rfl!)))
open_top hd for PySem.Challenge.rw_nn0009_01
set_option maxHeartbeats 8000000


/-- what a call's surroundings say -/
structure Amb (d : Nat) (w : World) (A : Around) (h : Heap) : Prop where
  go : ∃ (p : Program) (loose : List Str) (mean : ExcName → Option Value) (mg mb : Str → Option Value) (base : Heap) (outer : List Env) (env : Env) (A₀ : Around) (h₀ : Heap) (L : Addr) (m : Str → Option Value),
    Below A₀ base outer h₀ ∧ Fr h₀ L h m ∧ (hd.heap_39 w.params).In h₀ ∧ Top p loose mean mg mb h₀ ∧ A.frames = some (env :: outer) ∧ env.frame = some L ∧ env.scope.kind = .function
  depth : A.depth + d < recursionLimit
  units : A.units + 20 * d < cLine
  handled : A.handled = none

theorem Amb.mk' {d : Nat} {w : World} {A : Around} {h : Heap} {p : Program} {loose : List Str} {mean : ExcName → Option Value} {mg mb : Str → Option Value} {base : Heap} {outer : List Env} {env : Env} {A₀ : Around} {h₀ : Heap} {L : Addr} {m : Str → Option Value}
    (B : Below A₀ base outer h₀) (F : Fr h₀ L h m) (X : (hd.heap_39 w.params).In h₀) (T : Top p loose mean mg mb h₀) (hA : A.frames = some (env :: outer)) (hf : env.frame = some L) (hk : env.scope.kind = .function)
    (h1 : A.depth + d < recursionLimit) (h2 : A.units + 20 * d < cLine) (h3 : A.handled = none) : Amb d w A h :=
  ⟨⟨p, loose, mean, mg, mb, base, outer, env, A₀, h₀, L, m, B, F, X, T, hA, hf, hk⟩, h1, h2, h3⟩

abbrev PG : Program := PySem.Challenge.rw_nn0009_01.row.prog

/-- f, called with vs on the heap g, ends with a value of which Out is true, and leaves g's objects as they are -/
def Fn (d : Nat) (w : World) (f : Addr) (vs : List Value) (g : Heap) (Out : Value → Heap → Prop) : Prop :=
  ∀ (A : Around) (s : Shared) (Q E : Value → Shared → Prop), s.heap = g → Amb d w A g →
    (∀ v h' tk', g.StaysIn h' → Out v h' → Q v { s with heap := h', toks := tk' }) →
    wpAny (model PySem.Challenge.rw_nn0009_01.row.prog w) A (call (.ref f) vs) Q E s

theorem Fn.mono {d d' : Nat} {w : World} {f : Addr} {vs : List Value} {g : Heap} {O O' : Value → Heap → Prop} (H : Fn d w f vs g O) (hd : d ≤ d') (hO : ∀ v h', O v h' → O' v h') : Fn d' w f vs g O' :=
  fun A s Q E e B r => H A s Q E e ⟨B.go, by have := B.depth; omega, by have := B.units; omega, B.handled⟩ fun v h' tk st o => r v h' tk st (hO _ _ o)

theorem enter {d : Nat} {w : World} {f : Addr} {vs : List Value} {g : Heap} {Out : Value → Heap → Prop} {name qual : Str} {params : Arguments} {body : List Stmt} {scope : Scope} {dV kV doc pm cdv ct oc : Value} {an od : Option Addr} {osl : Array (Option Value)} {binds : List (Str × Value)}
    (ho : (hd.heap_39 w.params).lookup f = some ⟨oc, od, .func (fnOf name qual params body scope dV kV doc pm an cdv ct), osl⟩) (hcd : codeIn (hd.heap_39 w.params) cdv qual = true)
    (hbind : ∀ s, BindsTo s (fnOf name qual params body scope dV kV doc pm an cdv ct) ⟨vs, []⟩ binds) (hloc : ∀ y ∈ binds, scope.names.lookup y.1 = some .local)
    (hcell : ∀ x ∈ scope.names, x.2 ≠ .cell) (hco : scope.isCoroutine = false) (hgen : scope.isGenerator = false) (hk : scope.kind = .function)
    (h : ∀ (dp un : Nat) (gd : Option (List Code)) (outer : List Env) (base : Heap) (A₀ : Around) (p : Program) (loose : List Str) (mean : ExcName → Option Value) (mg mb : Str → Option Value) (L' : Addr) (h₁ : Heap) (s : Shared) (Q' : Flow → Shared → Prop),
      dp + d < recursionLimit → un + 20 * d < cLine → Below A₀ base outer g → (hd.heap_39 w.params).In g → Top p loose mean mg mb g → Fr g L' h₁ (fun y => binds.reverse.lookup y) → News g L' h₁ [] →
      (∀ v h' tk', g.StaysIn h' → Out v h' → Q' (.ret v) { s with heap := h', toks := tk' }) →
      wpAny (model PySem.Challenge.rw_nn0009_01.row.prog w) (ktrTop dp un gd qual scope L' f cdv [] outer) (execs body (envOf qual scope L' f cdv)) Q' (fun _ _ => False) { s with heap := h₁, toks := s.toks + binds.length }) :
    Fn (d + 1) w f vs g Out := by
  rintro ⟨hh, dp, fr, gd, un⟩ s Q E rfl ⟨⟨p, loose, mean, mg, mb, base, outer, env, A₀, h₀, L, m, B, F, X, T, hA, hf, hke⟩, h1, h2, h3⟩ ret
  dsimp only at hA h1 h2 h3
  subst hA h3
  refine wpAny_call ?_
  have hroom : dp < recursionLimit := by omega
  have X' : (hd.heap_39 w.params).In s.heap := X.keeps F.keep
  have B1 : Below { handled := none, depth := dp, frames := some (env :: outer), guards := gd, units := un } base (env :: outer) s.heap :=
    ⟨rfl, fun b o e => F.keep b o (B.stays b o e), (pushX B F hf hke).frames⟩
  refine codeAny_call_def (fd := fnOf name qual params body scope dV kV doc pm an cdv ct) (body := body) (binds := binds) hroom (X' _ _ ho) rfl (T.nolimit.keeps F.keep) (codeRec_of X' hcd) rfl (hbind s) hcell hloc (fun h₁ hns hk₁ => ?_) hco hgen hk
  have F' : Fr s.heap s.heap.objs.size h₁ (fun y => binds.reverse.lookup y) := ⟨hns, hk₁, Nat.le_refl _⟩
  have h1' : (dp + 1) + d < recursionLimit := by omega
  have h2' : (un + 3) + 20 * d < cLine := by omega
  refine wpAny_mono (h (dp + 1) (un + 3) gd (env :: outer) base _ p loose mean mg mb _ h₁ s (fun fl s' => Q (match fl with | .ret v => v | _ => .none) s')
    h1' h2' B1 X' (T.keeps F.keep) F' News.nil ret) (fun fl s' q => ?_) fun _ _ q => q.elim
  exact q

/-- the base of the limbs -/
abbrev bs (W : Int) : Int := 2 ^ W.toNat
theorem bs_pos (W : Int) : 0 < bs W := Int.pow_pos (by decide)

theorem bitAnd_mask (x : Int) (n : Nat) (hx : 0 ≤ x) : Builtin.bitAnd x (1 * 2 ^ n - 1) = x % 2 ^ n := by
  have hp : (0 : Int) < 2 ^ n := Int.pow_pos (by decide)
  have e : ((1 : Int) * 2 ^ n - 1).toNat = 2 ^ n - 1 := by
    have : ((2 ^ n : Nat) : Int) = (2 : Int) ^ n := by simp
    omega
  unfold Builtin.bitAnd
  rw [decide_eq_true hx, decide_eq_true (by omega : (0 : Int) ≤ 1 * 2 ^ n - 1)]
  dsimp only
  rw [e, Nat.and_two_pow_sub_one_eq_mod]
  have : ((2 ^ n : Nat) : Int) = (2 : Int) ^ n := by simp
  rw [← this, Int.natCast_emod, Int.toNat_of_nonneg hx]
theorem fdiv_pow (x : Int) (n : Nat) : x.fdiv (2 ^ n) = x / 2 ^ n := Int.fdiv_eq_ediv_of_nonneg _ (Int.le_of_lt (Int.pow_pos (by decide)))
theorem fmod_pow (x : Int) (n : Nat) : x.fmod (2 ^ n) = x % 2 ^ n := Int.fmod_eq_emod_of_nonneg _ (Int.le_of_lt (Int.pow_pos (by decide)))
theorem bs_two {W : Int} (hW : 2 ≤ W) : 2 ≤ bs W := by
  have := pow_le_pow (B := 2) (by decide) (m := 1) (n := W.toNat) (by omega)
  simpa using this
theorem pow_bits {W : Int} (hW : 2 ≤ W ∧ W ≤ 9) : Builtin.Int.intBits (2 ^ W.toNat) ≤ 64 := by
  have h1 : (0 : Int) < 2 ^ W.toNat := Int.pow_pos (by decide)
  have h2 := pow_le_pow (B := 2) (by decide) (m := W.toNat) (n := 9) (by omega)
  exact PySem.intBits_le_64 (by omega) (by omega)
/-- a new list of ints -/
def LOut (g : Heap) (xs : List Int) (v : Value) (h' : Heap) : Prop := ∃ a its n, v = .ref a ∧ h'.get? a = some (listOf its.toArray n) ∧ IntsAre its xs ∧ g.get? a = none
theorem LOut.mk {g h' : Heap} {L a : Addr} {its : List Value} {n : Nat} {xs : List Int} {news : List (Addr × Obj)} (N : News g L h' news) (hm : (a, listOf its.toArray n) ∈ news) (hi : IntsAre its xs) : LOut g xs (.ref a) h' :=
  ⟨a, its, n, rfl, N.get hm, hi, N.fresh hm⟩

theorem LOut.mkNil {g h' : Heap} {L a : Addr} {n : Nat} {news : List (Addr × Obj)} (N : News g L h' news) (hm : (a, listOf #[] n) ∈ news) : LOut g [] (.ref a) h' := ⟨a, [], n, rfl, N.get hm, IntsAre.nil, N.fresh hm⟩
theorem LOut.mkPush {g h' : Heap} {L a : Addr} {its : List Value} {n : Nat} {xs : List Int} {c : Int} {t : Tok} {news : List (Addr × Obj)} (N : News g L h' news) (hm : (a, listOf (its.toArray.push (.int c t)) n) ∈ news) (hi : IntsAre its xs) : LOut g (xs ++ [c]) (.ref a) h' :=
  ⟨a, its ++ [.int c t], n, rfl, by rw [N.get hm]; simp, hi.append (.cons _ _ .nil), N.fresh hm⟩

theorem News.cons' {h₀ h h' : Heap} {L a : Addr} {m : Str → Option Value} {o : Obj} {news : List (Addr × Obj)} (F : Fr h₀ L h m) (N : News h₀ L h news) (st : h.StaysIn h') (ho : h'.get? a = some o) (hn : h.get? a = none) : News h₀ L h' ((a, o) :: news) := by
  intro p hp
  rcases List.mem_cons.mp hp with rfl | hp
  · refine ⟨ho, fun e => ?_, ?_⟩
    · obtain ⟨oL, _, _, hL, _⟩ := F.ns
      have e' : a = L := e
      rw [e', hL] at hn; cases hn
    · cases q : h₀.get? a with
      | none => rfl
      | some o' => rw [F.keep _ _ q] at hn; cases hn
  · exact ⟨st _ _ (N p hp).1, (N p hp).2⟩
theorem News.stays {h₀ h h' : Heap} {L : Addr} {news : List (Addr × Obj)} (N : News h₀ L h news) (st : h.StaysIn h') : News h₀ L h' news := fun p hp => ⟨st _ _ (N p hp).1, (N p hp).2⟩

theorem News.isL {h₀ h : Heap} {L a : Addr} {its : List Value} {n : Nat} {news : List (Addr × Obj)} (N : News h₀ L h news) (hm : (a, listOf its.toArray n) ∈ news) : h.IsList a its.toArray := ⟨_, N.get hm, rfl, _, rfl⟩
theorem News.isLp {h₀ h : Heap} {L a : Addr} {its : List Value} {v : Value} {n : Nat} {news : List (Addr × Obj)} (N : News h₀ L h news) (hm : (a, listOf (its.toArray.push v) n) ∈ news) : h.IsList a (its ++ [v]).toArray := ⟨_, N.get hm, rfl, n, by simp⟩
section
variable {d : Nat} {w : World} {f : Addr} {vs : List Value} {A : Around} {s : Shared} {Q E : Value → Shared → Prop} {p : Program} {loose : List Str} {mean : ExcName → Option Value} {mg mb : Str → Option Value} {base : Heap} {outer : List Env} {env : Env} {A₀ : Around} {h₀ : Heap} {L : Addr} {m : Str → Option Value} {news : List (Addr × Obj)}
/-- a call whose value is a new list of ints -/
theorem callL {P : List Int → Prop} (H : Fn d w f vs s.heap (fun v h' => ∃ xs, P xs ∧ LOut s.heap xs v h'))
    (B : Below A₀ base outer h₀) (F : Fr h₀ L s.heap m) (X : (hd.heap_39 w.params).In h₀) (N : News h₀ L s.heap news) (T : Top p loose mean mg mb h₀) (hA : A.frames = some (env :: outer)) (hf : env.frame = some L) (hk : env.scope.kind = .function)
    (h1 : A.depth + d < recursionLimit) (h2 : A.units + 20 * d < cLine) (h3 : A.handled = none)
    (ret : ∀ a its n xs h' tk', Fr h₀ L h' m → News h₀ L h' ((a, listOf its.toArray n) :: news) → (∀ p ∈ news, p.1 ≠ a) → IntsAre its xs → P xs → Q (.ref a) { s with heap := h', toks := tk' }) :
    wpAny (model PySem.Challenge.rw_nn0009_01.row.prog w) A (call (.ref f) vs) Q E s :=
  H A s Q E rfl (Amb.mk' B F X T hA hf hk h1 h2 h3) fun v h' tk' st ⟨xs, hp, a, its, n, e, ho, hi, hn⟩ => by
    subst e
    exact ret a its n xs h' tk' (F.grownK st) (News.cons' F N st ho hn) (fun q hq e => by have := (N q hq).1; rw [e, hn] at this; cases this) hi hp
/-- a call whose value is an int -/
theorem callI {P : Int → Prop} (H : Fn d w f vs s.heap (fun v _ => ∃ i t, P i ∧ v = .int i t))
    (B : Below A₀ base outer h₀) (F : Fr h₀ L s.heap m) (X : (hd.heap_39 w.params).In h₀) (N : News h₀ L s.heap news) (T : Top p loose mean mg mb h₀) (hA : A.frames = some (env :: outer)) (hf : env.frame = some L) (hk : env.scope.kind = .function)
    (h1 : A.depth + d < recursionLimit) (h2 : A.units + 20 * d < cLine) (h3 : A.handled = none)
    (ret : ∀ i t h' tk', Fr h₀ L h' m → News h₀ L h' news → P i → Q (.int i t) { s with heap := h', toks := tk' }) :
    wpAny (model PySem.Challenge.rw_nn0009_01.row.prog w) A (call (.ref f) vs) Q E s :=
  H A s Q E rfl (Amb.mk' B F X T hA hf hk h1 h2 h3) fun v h' tk' st ⟨i, t, hp, e⟩ => by
    subst e
    exact ret i t h' tk' (F.grownK st) (News.stays N st) hp
end

theorem bitOr_nat (x y : Int) (hx : 0 ≤ x) (hy : 0 ≤ y) : Builtin.bitOr x y = ((x.toNat ||| y.toNat : Nat) : Int) := by
  have h1 : ¬ (0 ≤ Builtin.bitNot x) := by unfold Builtin.bitNot; omega
  have h2 : ¬ (0 ≤ Builtin.bitNot y) := by unfold Builtin.bitNot; omega
  unfold Builtin.bitOr Builtin.bitAnd
  rw [decide_eq_false h1, decide_eq_false h2]
  dsimp only
  unfold Builtin.bitNot
  rw [show (-(-x - 1) - 1).toNat = x.toNat by congr 1; omega, show (-(-y - 1) - 1).toNat = y.toNat by congr 1; omega]
  omega
theorem bitOr_add (x y : Int) (i : Nat) (hx : 0 ≤ x) (hx2 : x < 2 ^ i) (hy : 0 ≤ y) : Builtin.bitOr x (y * 2 ^ i) = x + y * 2 ^ i := by
  have hp : (0 : Int) < 2 ^ i := Int.pow_pos (by decide)
  have e : (y * 2 ^ i).toNat = 2 ^ i * y.toNat := by
    have h1 : ((2 ^ i * y.toNat : Nat) : Int) = y * 2 ^ i := by
      rw [Int.natCast_mul, Int.toNat_of_nonneg hy, Int.mul_comm]; simp
    rw [← h1]; exact Int.toNat_natCast _
  have hlt : x.toNat < 2 ^ i := by
    have : ((2 ^ i : Nat) : Int) = (2 : Int) ^ i := by simp
    omega
  rw [bitOr_nat x _ hx (Int.mul_nonneg hy (Int.le_of_lt hp)), e, Nat.or_comm, ← Nat.two_pow_add_eq_or_of_lt hlt, Int.natCast_add, Int.natCast_mul, Int.toNat_of_nonneg hx, Int.toNat_of_nonneg hy]
  have : ((2 ^ i : Nat) : Int) = (2 : Int) ^ i := by simp
  rw [this, Int.mul_comm]; omega
theorem fdm {n W : Int} (hn : 0 ≤ n ∧ n ≤ 30) (hW : 2 ≤ W ∧ W ≤ 9) : 0 ≤ n.fdiv W ∧ n.fdiv W ≤ 15 ∧ 0 ≤ n.fmod W ∧ n.fmod W ≤ 8 ∧ n.fmod W < W := by
  rw [Int.fdiv_eq_ediv_of_nonneg _ (by omega), Int.fmod_eq_emod_of_nonneg _ (by omega)]
  have h1 := Int.emod_nonneg n (show W ≠ 0 by omega)
  have h2 := Int.emod_lt_of_pos n (show 0 < W by omega)
  have h3 : 0 ≤ n / W := Int.ediv_nonneg (by omega) (by omega)
  have h4 := Int.emod_add_mul_ediv n W
  have h5 : 2 * (n / W) ≤ W * (n / W) := Int.mul_le_mul_of_nonneg_right hW.1 h3
  omega
theorem pow_split {n W : Int} (hn : 0 ≤ n) (hW : 0 < W) : (2 : Int) ^ n.toNat = bs W ^ (n.fdiv W).toNat * 2 ^ (n.fmod W).toNat := by
  rw [Int.fdiv_eq_ediv_of_nonneg _ (by omega), Int.fmod_eq_emod_of_nonneg _ (by omega)]
  have h1 := Int.emod_nonneg n (show W ≠ 0 by omega)
  have h3 : 0 ≤ n / W := Int.ediv_nonneg (by omega) (by omega)
  have h4 := Int.emod_add_mul_ediv n W
  show (2 : Int) ^ n.toNat = (2 ^ W.toNat) ^ (n / W).toNat * 2 ^ (n % W).toNat
  rw [← Int.pow_mul, ← Int.pow_add]
  congr 1
  have e : ((W.toNat * (n / W).toNat : Nat) : Int) = W * (n / W) := by
    rw [Int.natCast_mul, Int.toNat_of_nonneg (by omega), Int.toNat_of_nonneg h3]
  have : ((W.toNat * (n / W).toNat + (n % W).toNat : Nat) : Int) = n := by
    rw [Int.natCast_add, e, Int.toNat_of_nonneg h1]; omega
  omega
theorem bs_split {W f : Int} (hf : 0 ≤ f) (hW : f < W) : bs W = 2 ^ f.toNat * 2 ^ (W - f).toNat := by
  show (2 : Int) ^ W.toNat = _
  rw [← Int.pow_add]; congr 1; omega
theorem two_pos (n : Nat) : (0 : Int) < 2 ^ n := Int.pow_pos (by decide)
/-- a remainder by a product -/
theorem emod_mul_split (x P F : Int) (hP : 0 < P) (hF : 0 < F) : x % (P * F) = x % P + P * (x / P % F) := by
  have h1 := Int.emod_add_mul_ediv x P
  have h2 := Int.emod_add_mul_ediv (x / P) F
  have a := Int.emod_nonneg x (show P ≠ 0 by omega)
  have b := Int.emod_lt_of_pos x hP
  have c := Int.emod_nonneg (x / P) (show F ≠ 0 by omega)
  have d := Int.emod_lt_of_pos (x / P) hF
  have e : P * (x / P % F + 1) ≤ P * F := Int.mul_le_mul_of_nonneg_left (by omega) (by omega)
  have e0 := Int.mul_nonneg (Int.le_of_lt hP) c
  rw [Int.mul_add, Int.mul_one] at e
  refine (ediv_emod_unique' (q := x / P / F) (Int.mul_pos hP hF) ?_ (by omega) (by omega)).2
  have : P * (x / P % F + F * (x / P / F)) = P * (x / P) := by rw [h2]
  grind
/-- the limb at s above the number's quotient by the base's power -/
theorem val_getD {B : Int} (xs : List Int) (s : Nat) (hs : s < xs.length) : val B (xs.drop s) = xs.getD s 0 + B * val B (xs.drop (s + 1)) := by
  rw [List.drop_eq_getElem_cons hs, val_cons, List.getD_eq_getElem?_getD, List.getElem?_eq_getElem hs]; rfl
theorem add_mul_emod (a b F G : Int) : (a + F * G * b) % F = a % F := by
  rw [Int.mul_assoc]; exact Int.add_mul_emod_self_left ..
theorem low_lim {W : Int} {na : List Int} (h : Lim (bs W) na) {s : Nat} {f : Int} (hf : 0 ≤ f) (hfW : f < W) : Lim (bs W) (na.take s ++ [Builtin.bitAnd (na.getD s 0) (1 * 2 ^ f.toNat - 1)]) := by
  have hd := h.getD (bs_pos W) s
  rw [bitAnd_mask _ _ hd.1]
  refine (h.take s).snoc ⟨Int.emod_nonneg _ (by have := two_pos f.toNat; omega), Int.lt_of_lt_of_le (Int.emod_lt_of_pos _ (two_pos _)) ?_⟩
  exact pow_le_pow (B := 2) (by decide) (by omega)
theorem emod_le' {x m : Int} (h : 0 ≤ x) (hm : 0 < m) : x % m ≤ x := by
  have h1 := Int.emod_add_mul_ediv x m
  have h2 := Int.mul_nonneg (Int.le_of_lt hm) (Int.ediv_nonneg h (Int.le_of_lt hm))
  omega
theorem low_end {W n x : Int} {na xs : List Int} (hn : 0 ≤ n) (hW : 0 < W) (R : Row (bs W) na x) (hl : ¬ (na.length : Int) ≤ n.fdiv W) (hm : 0 ≤ n.fmod W ∧ n.fmod W < W)
    (h : Row (bs W) xs (val (bs W) (na.take (n.fdiv W).toNat ++ [Builtin.bitAnd (na.getD (n.fdiv W).toNat 0) (1 * 2 ^ (n.fmod W).toNat - 1)]))) : Row (bs W) xs (x % 2 ^ n.toNat) ∧ xs.length ≤ na.length := by
  have hq : 0 ≤ n.fdiv W := by rw [Int.fdiv_eq_ediv_of_nonneg _ (by omega)]; exact Int.ediv_nonneg hn (by omega)
  have hs : (n.fdiv W).toNat < na.length := by omega
  have hd := R.lim.getD (bs_pos W) (n.fdiv W).toNat
  have e : x % 2 ^ n.toNat = val (bs W) (na.take (n.fdiv W).toNat ++ [Builtin.bitAnd (na.getD (n.fdiv W).toNat 0) (1 * 2 ^ (n.fmod W).toNat - 1)]) := by
    rw [pow_split hn hW, emod_mul_split _ _ _ (pow_pos (bs_pos W) _) (two_pos _), val_append, val_cons, val_nil, List.length_take, Nat.min_eq_left (Nat.le_of_lt hs), bitAnd_mask _ _ hd.1, ((R.take (bs_pos W) _).2)]
    congr 2
    rw [Int.mul_zero, Int.add_zero, ← (R.drop (bs_pos W) _).val, val_getD _ _ hs, bs_split hm.1 hm.2, add_mul_emod]
  rw [← e] at h
  refine ⟨h, h.len_mono (bs_pos W) R ?_⟩
  have x0 := R.nonneg (bs_pos W)
  exact emod_le' x0 (two_pos _) 
theorem low_end0 {W n x : Int} {na : List Int} (hn : 0 ≤ n) (hW : 0 < W) (R : Row (bs W) na x) (hl : (na.length : Int) ≤ n.fdiv W) : Row (bs W) na (x % 2 ^ n.toNat) ∧ na.length ≤ na.length := by
  have x0 := R.nonneg (bs_pos W)
  have x1 := R.lt (bs_pos W)
  have hq : 0 ≤ n.fdiv W := by rw [Int.fdiv_eq_ediv_of_nonneg _ (by omega)]; exact Int.ediv_nonneg hn (by omega)
  have h1 := pow_le_pow (bs_pos W) (m := na.length) (n := (n.fdiv W).toNat) (by omega)
  have h2 : bs W ^ (n.fdiv W).toNat * 1 ≤ bs W ^ (n.fdiv W).toNat * 2 ^ (n.fmod W).toNat := Int.mul_le_mul_of_nonneg_left (by have := two_pos (n.fmod W).toNat; omega) (Int.le_of_lt (pow_pos (bs_pos W) _))
  rw [Int.emod_eq_of_lt x0 (by rw [pow_split hn hW]; omega)]
  exact ⟨R, Nat.le_refl _⟩

def ShrS (B F : Int) (na : List Int) (s i : Nat) (xs : List Int) : Prop :=
  Lim B xs ∧ xs.length = i ∧ F * val B xs + na.getD s 0 % F = val B ((na.drop s).take i) + B ^ i * (na.getD (s + i) 0 % F)
theorem getD_drop' (xs : List Int) (s i : Nat) : (xs.drop s).getD i 0 = xs.getD (s + i) 0 := by
  rw [List.getD_eq_getElem?_getD, List.getElem?_drop, ← List.getD_eq_getElem?_getD]
theorem ShrS.start {B F : Int} {na : List Int} {s : Nat} : ShrS B F na s 0 [] := ⟨.nil, rfl, by simp [val]⟩
theorem ShrS.step {B F G : Int} (hF : 0 < F) (hG : 0 < G) (hB : B = F * G) {na xs : List Int} {s i : Nat} {l : Int} (ha : Lim B na) (S : ShrS B F na s i xs) (hl : l = na.getD (s + i) 0 / F + G * (na.getD (s + (i + 1)) 0 % F)) :
    ShrS B F na s (i + 1) (xs ++ [l]) := by
  obtain ⟨h1, h2, h3⟩ := S
  have hBp : 0 < B := by rw [hB]; exact Int.mul_pos hF hG
  have a := ha.getD hBp (s + i)
  have e := Int.emod_add_mul_ediv (na.getD (s + i) 0) F
  generalize hu : na.getD (s + (i + 1)) 0 % F = u at *
  have hu0 : 0 ≤ u := hu ▸ Int.emod_nonneg _ (by omega)
  have hu1 : u < F := hu ▸ Int.emod_lt_of_pos _ hF
  have hq0 : 0 ≤ na.getD (s + i) 0 / F := Int.ediv_nonneg a.1 (Int.le_of_lt hF)
  have hq1 : na.getD (s + i) 0 / F < G := Int.ediv_lt_of_lt_mul hF (by rw [Int.mul_comm, ← hB]; exact a.2)
  have hg1 : G * (u + 1) ≤ G * F := Int.mul_le_mul_of_nonneg_left (by omega) (by omega)
  have hg0 := Int.mul_nonneg (Int.le_of_lt hG) hu0
  refine ⟨h1.snoc ⟨by omega, by rw [hB, Int.mul_comm F G]; rw [Int.mul_add, Int.mul_one] at hg1; omega⟩, by rw [List.length_append, h2]; rfl, ?_⟩
  rw [val_append, h2, val_take_succ, val_cons, val_nil, Int.pow_succ, getD_drop', hu]
  generalize na.getD (s + i) 0 = v at *
  generalize hq : v / F = q at *
  generalize hr : v % F = r at *
  subst hl
  have e2 : B ^ i * v = B ^ i * (r + F * q) := by rw [e]
  rw [hB] at *
  generalize (F * G) ^ i = P at *
  grind
theorem shr_limb {W f d e : Int} (hf : 0 ≤ f) (hfW : f < W) (hd : 0 ≤ d ∧ d < bs W) (he : 0 ≤ e) :
    Builtin.bitAnd (Builtin.bitOr (d.fdiv (2 ^ f.toNat)) (e * 2 ^ (W - f).toNat)) (1 * 2 ^ W.toNat - 1) = d / 2 ^ f.toNat + 2 ^ (W - f).toNat * (e % 2 ^ f.toNat) := by
  have hb := bs_split hf hfW
  have hF := two_pos f.toNat
  have hG := two_pos (W - f).toNat
  have a0 : 0 ≤ d / 2 ^ f.toNat := Int.ediv_nonneg hd.1 (Int.le_of_lt hF)
  have a1 : d / 2 ^ f.toNat < 2 ^ (W - f).toNat := Int.ediv_lt_of_lt_mul hF (by rw [Int.mul_comm, ← hb]; exact hd.2)
  rw [fdiv_pow, bitOr_add _ _ _ a0 a1 he, bitAnd_mask _ _ (by have := Int.mul_nonneg he (Int.le_of_lt hG); omega)]
  rw [show (2 : Int) ^ W.toNat = 2 ^ (W - f).toNat * 2 ^ f.toNat by rw [Int.mul_comm]; exact hb, emod_mul_split _ _ _ hG hF]
  rw [show d / 2 ^ f.toNat + e * 2 ^ (W - f).toNat = d / 2 ^ f.toNat + 2 ^ (W - f).toNat * e by rw [Int.mul_comm e]]
  have h := ediv_emod_unique' (x := d / 2 ^ f.toNat + 2 ^ (W - f).toNat * e) hG rfl a0 a1
  rw [h.1, h.2]
theorem shr_end {W n x : Int} {na xs ys : List Int} (hn : 0 ≤ n) (hW : 0 < W) (R : Row (bs W) na x) (hm : 0 ≤ n.fmod W ∧ n.fmod W < W) (hl : ys.length = na.length - (n.fdiv W).toNat)
    (S : ShrS (bs W) (2 ^ (n.fmod W).toNat) na (n.fdiv W).toNat ys.length ys) (h : Row (bs W) xs (val (bs W) ys)) : Row (bs W) xs (x / 2 ^ n.toNat) ∧ xs.length ≤ na.length := by
  obtain ⟨h1, h2, h3⟩ := S
  rw [hl, List.take_of_length_le (by rw [List.length_drop]; omega), (R.drop (bs_pos W) _).val] at h3
  rw [show na.getD ((n.fdiv W).toNat + (na.length - (n.fdiv W).toNat)) 0 = 0 by rw [List.getD_eq_getElem?_getD, List.getElem?_eq_none (by omega)]; rfl, Int.zero_emod, Int.mul_zero, Int.add_zero] at h3
  have hF := two_pos (n.fmod W).toNat
  have e : x / 2 ^ n.toNat = val (bs W) ys := by
    rw [pow_split hn hW, ← Int.ediv_ediv_of_nonneg (Int.le_of_lt (pow_pos (bs_pos W) _))]
    exact (ediv_emod_unique' hF (h3.symm.trans (Int.add_comm _ _)) (Int.emod_nonneg _ (by omega)) (Int.emod_lt_of_pos _ hF)).1
  rw [← e] at h
  refine ⟨h, h.len_mono (bs_pos W) R ?_⟩
  exact Int.ediv_le_self _ (R.nonneg (bs_pos W))
theorem shl_one {W f : Int} (hf : 0 ≤ f) (hfW : f < W) : Builtin.bitAnd (Builtin.bitOr 0 (1 * 2 ^ f.toNat)) (1 * 2 ^ W.toNat - 1) = 2 ^ f.toNat ∧ (Builtin.bitOr 0 (1 * 2 ^ f.toNat)).fdiv (2 ^ W.toNat) = 0 := by
  have hF := two_pos f.toNat
  have h := pow_le_pow (B := 2) (by decide) (m := f.toNat + 1) (n := W.toNat) (by omega)
  rw [Int.pow_succ] at h
  rw [bitOr_add 0 1 f.toNat (by decide) hF (by decide), bitAnd_mask _ _ (by omega), fdiv_pow, Int.one_mul, Int.zero_add]
  exact ⟨Int.emod_eq_of_lt (by omega) (by omega), Int.ediv_eq_zero_of_lt (by omega) (by omega)⟩
theorem shl_end {W n : Int} (hn : 0 ≤ n ∧ n ≤ 30) (hW : 2 ≤ W ∧ W ≤ 9) : Row (bs W) ((List.replicate (n.fdiv W).toNat [0]).flatten ++ [2 ^ (n.fmod W).toNat]) (2 ^ n.toNat) ∧ ((List.replicate (n.fdiv W).toNat [(0 : Int)]).flatten ++ [2 ^ (n.fmod W).toNat]).length ≤ 30 := by
  have hb := fdm hn hW
  have hF := two_pos (n.fmod W).toNat
  have h := pow_le_pow (B := 2) (by decide) (m := (n.fmod W).toNat + 1) (n := W.toNat) (by omega)
  rw [Int.pow_succ] at h
  rw [List.flatten_replicate_singleton]
  have R1 : Row (bs W) [2 ^ (n.fmod W).toNat] (2 ^ (n.fmod W).toNat) := by
    refine ⟨Lim.cons ⟨by omega, by show (2 : Int) ^ (n.fmod W).toNat < 2 ^ W.toNat; omega⟩ .nil, fun _ => ?_, by simp [val]⟩
    show (2 : Int) ^ (n.fmod W).toNat ≠ 0
    omega
  refine ⟨?_, by simp; omega⟩
  have e := pow_split hn.1 (show 0 < W by omega)
  rw [e]
  exact R1.shift (bs_pos W) _ (by simp)
theorem limb_small {W : Int} (hW : 2 ≤ W ∧ W ≤ 9) {na : List Int} (h : Lim (bs W) na) (k : Nat) : (na.getD k 0).natAbs < 2 ^ 64 := by
  have h1 := h.getD (bs_pos W) k
  have h2 := pow_le_pow (B := 2) (by decide) (m := W.toNat) (n := 9) (by omega)
  have h3 : bs W ≤ 2 ^ 9 := h2
  omega
theorem shr_t {W n : Int} {na pre xs : List Int} {k e : Int} (hW : 2 ≤ W ∧ W ≤ 9) (hm0 : 0 ≤ n.fmod W) (hm2 : n.fmod W < W) (hd0 : 0 ≤ n.fdiv W) (ha : Lim (bs W) na) (P1 : xs.length = pre.length) (P : ShrS (bs W) (2 ^ (n.fmod W).toNat) na (n.fdiv W).toNat xs.length xs) (hk : k = n.fdiv W + (pre.length : Int)) (he : e = na.getD (k + 1).toNat 0) :
    (xs ++ [Builtin.bitAnd (Builtin.bitOr ((na.getD k.toNat 0).fdiv (2 ^ (n.fmod W).toNat)) (e * 2 ^ (W - n.fmod W).toNat)) (1 * 2 ^ W.toNat - 1)]).length = (pre ++ [k]).length ∧
    ShrS (bs W) (2 ^ (n.fmod W).toNat) na (n.fdiv W).toNat (xs ++ [Builtin.bitAnd (Builtin.bitOr ((na.getD k.toNat 0).fdiv (2 ^ (n.fmod W).toNat)) (e * 2 ^ (W - n.fmod W).toNat)) (1 * 2 ^ W.toNat - 1)]).length (xs ++ [Builtin.bitAnd (Builtin.bitOr ((na.getD k.toNat 0).fdiv (2 ^ (n.fmod W).toNat)) (e * 2 ^ (W - n.fmod W).toNat)) (1 * 2 ^ W.toNat - 1)]) := by
  subst he
  refine ⟨by simp [P1], ?_⟩
  rw [List.length_append, List.length_singleton]
  refine P.step (two_pos _) (two_pos (W - n.fmod W).toNat) (bs_split hm0 hm2) ha ?_
  rw [shr_limb hm0 hm2 (ha.getD (bs_pos W) _) (ha.getD (bs_pos W) _).1, show k.toNat = (n.fdiv W).toNat + xs.length by omega, show (k + 1).toNat = (n.fdiv W).toNat + (xs.length + 1) by omega]
theorem getD_none' {xs : List Int} {k : Int} (h : ¬ k < (xs.length : Int)) : (0 : Int) = xs.getD k.toNat 0 := by
  rw [List.getD_eq_getElem?_getD, List.getElem?_eq_none (by omega)]; rfl
theorem shr_end' {W n x : Int} {na xs ys : List Int} (hn : 0 ≤ n) (hW : 0 < W) (R : Row (bs W) na x) (hm0 : 0 ≤ n.fmod W) (hm2 : n.fmod W < W) (hd0 : 0 ≤ n.fdiv W) (hl : ys.length = (rangeKs (n.fdiv W) ((na.length : Int) - n.fdiv W).toNat).length)
    (S : ShrS (bs W) (2 ^ (n.fmod W).toNat) na (n.fdiv W).toNat ys.length ys) (h : Row (bs W) xs (val (bs W) ys)) : Row (bs W) xs (x / 2 ^ n.toNat) ∧ xs.length ≤ na.length := by
  rw [rangeKs_length] at hl
  exact shr_end hn hW R ⟨hm0, hm2⟩ (by omega) S h
theorem shl_t {W f : Int} (hf : 0 ≤ f) (hfW : f < W) {pre xs m : List Int} {k c : Int} (hc : c = 0) (hl : xs.length ≤ 20 + pre.length) (hx : xs = m ++ pre.map fun _ => 2 ^ f.toNat) (hk : k ∈ [(1 : Int)]) :
    (Builtin.bitOr c (k * 2 ^ f.toNat)).fdiv (2 ^ W.toNat) = 0 ∧ (xs ++ [Builtin.bitAnd (Builtin.bitOr c (k * 2 ^ f.toNat)) (1 * 2 ^ W.toNat - 1)]).length ≤ 20 + (pre ++ [k]).length ∧
    xs ++ [Builtin.bitAnd (Builtin.bitOr c (k * 2 ^ f.toNat)) (1 * 2 ^ W.toNat - 1)] = m ++ (pre ++ [k]).map fun _ => 2 ^ f.toNat := by
  rw [List.mem_singleton.mp hk, hc, (shl_one hf hfW).1, (shl_one hf hfW).2]
  refine ⟨rfl, by simp; omega, ?_⟩
  rw [hx, List.map_append, List.append_assoc]; rfl
theorem shl_s {q : Int} (hq : 0 ≤ q ∧ q ≤ 15) {F : Int} : (0 : Int) = 0 ∧ (List.replicate q.toNat [(0 : Int)]).flatten.length ≤ 20 + ([] : List Int).length ∧ (List.replicate q.toNat [(0 : Int)]).flatten = (List.replicate q.toNat [0]).flatten ++ ([] : List Int).map fun _ => F := by
  refine ⟨rfl, ?_, by simp⟩
  rw [List.flatten_replicate_singleton, List.length_replicate]
  simp; omega
theorem shl_end' {W n : Int} (hn : 0 ≤ n ∧ n ≤ 30) (hW : 2 ≤ W ∧ W ≤ 9) {xs : List Int} (e : xs = (List.replicate (n.fdiv W).toNat [0]).flatten ++ [(1 : Int)].map fun _ => 2 ^ (n.fmod W).toNat) : Row (bs W) xs (2 ^ n.toNat) ∧ xs.length ≤ 30 := by
  subst e; exact shl_end hn hW
theorem row_bits {W x : Int} (hW : 2 ≤ W ∧ W ≤ 9) {na : List Int} (R : Row (bs W) na x) (hs : na.length ≤ 300) : Builtin.Int.intBits x ≤ 2 ^ 20 := by
  have h0 := R.nonneg (bs_pos W)
  have h1 := R.lt (bs_pos W)
  have h2 : x < 2 ^ (W.toNat * na.length) := by rw [Int.pow_mul]; exact h1
  have h3 : x.natAbs < 2 ^ (W.toNat * na.length) := by
    have : ((2 ^ (W.toNat * na.length) : Nat) : Int) = (2 : Int) ^ (W.toNat * na.length) := by simp
    omega
  have h4 : W.toNat * na.length ≤ 9 * 300 := Nat.mul_le_mul (by omega) hs
  exact Nat.le_trans (intBits_le h3) (Nat.le_trans h4 (by decide))
theorem mul_cap {W x y : Int} {na nb : List Int} (R : Row (bs W) na x) (S : Row (bs W) nb y) : x * y < bs W ^ (na.length + nb.length) := by
  have h0 := R.nonneg (bs_pos W)
  have h1 := R.lt (bs_pos W)
  have h2 := S.nonneg (bs_pos W)
  have h3 := S.lt (bs_pos W)
  have p1 := pow_pos (bs_pos W) na.length
  rw [Int.pow_add]
  have a : x * y ≤ bs W ^ na.length * y := Int.mul_le_mul_of_nonneg_right (by omega) h2
  have b : bs W ^ na.length * (y + 1) ≤ bs W ^ na.length * bs W ^ nb.length := Int.mul_le_mul_of_nonneg_left (by omega) (by omega)
  rw [Int.mul_add, Int.mul_one] at b
  omega
theorem cap_mono {W x : Int} {n : Nat} (h : x < bs W ^ n) (hn : n ≤ 300) : x < bs W ^ 300 := Int.lt_of_lt_of_le h (pow_le_pow (bs_pos W) hn)
/-- a tuple of two -/
abbrev tupOf (a b : Addr) : Obj := { cls := .type "tuple", data := .seq #[.ref a, .ref b] }
/-- a new tuple of two new lists of ints -/
def TOut (g : Heap) (xs ys : List Int) (v : Value) (h' : Heap) : Prop := ∃ t a b ia ka ib kb, v = .ref t ∧ h'.get? t = some (tupOf a b) ∧ h'.get? a = some (listOf ia.toArray ka) ∧ h'.get? b = some (listOf ib.toArray kb) ∧ IntsAre ia xs ∧ IntsAre ib ys ∧ g.get? t = none ∧ g.get? a = none ∧ g.get? b = none
theorem TOut.mk {g h' : Heap} {L t a b : Addr} {ia ib : List Value} {ka kb : Nat} {xs ys : List Int} {news : List (Addr × Obj)} (N : News g L h' news) (ht : (t, tupOf a b) ∈ news) (ha : (a, listOf ia.toArray ka) ∈ news) (hb : (b, listOf ib.toArray kb) ∈ news) (h1 : IntsAre ia xs) (h2 : IntsAre ib ys) : TOut g xs ys (.ref t) h' :=
  ⟨t, a, b, ia, ka, ib, kb, rfl, N.get ht, N.get ha, N.get hb, h1, h2, N.fresh ht, N.fresh ha, N.fresh hb⟩
/-- a new tuple of what stood and a new list of ints -/
def UOut (g : Heap) (a : Addr) (ys : List Int) (v : Value) (h' : Heap) : Prop := ∃ t b ib kb, v = .ref t ∧ h'.get? t = some (tupOf a b) ∧ h'.get? b = some (listOf ib.toArray kb) ∧ IntsAre ib ys ∧ g.get? t = none ∧ g.get? b = none
theorem UOut.mk {g h' : Heap} {L t a b : Addr} {ib : List Value} {kb : Nat} {ys : List Int} {news : List (Addr × Obj)} (N : News g L h' news) (ht : (t, tupOf a b) ∈ news) (hb : (b, listOf ib.toArray kb) ∈ news) (h2 : IntsAre ib ys) : UOut g a ys (.ref t) h' :=
  ⟨t, b, ib, kb, rfl, N.get ht, N.get hb, h2, N.fresh ht, N.fresh hb⟩
theorem News.cons1 {h₀ h h' : Heap} {L a : Addr} {m : Str → Option Value} {o : Obj} {news : List (Addr × Obj)} (F : Fr h₀ L h m) (N : News h₀ L h' news) (ho : h'.get? a = some o) (hn : h.get? a = none) : News h₀ L h' ((a, o) :: news) := by
  intro p hp
  rcases List.mem_cons.mp hp with rfl | hp
  · refine ⟨ho, fun e => ?_, ?_⟩
    · obtain ⟨oL, _, _, hL, _⟩ := F.ns
      have e' : a = L := e
      rw [e', hL] at hn; cases hn
    · cases q : h₀.get? a with
      | none => rfl
      | some o' => rw [F.keep _ _ q] at hn; cases hn
  · exact N p hp
theorem News.cons2 {h₀ h h' : Heap} {L a b : Addr} {m : Str → Option Value} {o o' : Obj} {news : List (Addr × Obj)} (F : Fr h₀ L h m) (N : News h₀ L h news) (st : h.StaysIn h') (ho : h'.get? a = some o) (hn : h.get? a = none) (ho' : h'.get? b = some o') (hn' : h.get? b = none) : News h₀ L h' ((b, o') :: (a, o) :: news) :=
  News.cons1 F (News.cons1 F (News.stays N st) ho hn) ho' hn'
theorem News.cons3 {h₀ h h' : Heap} {L a b c : Addr} {m : Str → Option Value} {o o' o'' : Obj} {news : List (Addr × Obj)} (F : Fr h₀ L h m) (N : News h₀ L h news) (st : h.StaysIn h') (ho : h'.get? a = some o) (hn : h.get? a = none) (ho' : h'.get? b = some o') (hn' : h.get? b = none) (ho'' : h'.get? c = some o'') (hn'' : h.get? c = none) : News h₀ L h' ((c, o'') :: (b, o') :: (a, o) :: news) :=
  News.cons1 F (News.cons2 F N st ho hn ho' hn') ho'' hn''
section
variable {d : Nat} {w : World} {f : Addr} {vs : List Value} {A : Around} {s : Shared} {Q E : Value → Shared → Prop} {p : Program} {loose : List Str} {mean : ExcName → Option Value} {mg mb : Str → Option Value} {base : Heap} {outer : List Env} {env : Env} {A₀ : Around} {h₀ : Heap} {L : Addr} {m : Str → Option Value} {news : List (Addr × Obj)}
/-- a call whose value is a new tuple of two new lists of ints -/
theorem callT {P : List Int → List Int → Prop} (H : Fn d w f vs s.heap (fun v h' => ∃ xs ys, P xs ys ∧ TOut s.heap xs ys v h'))
    (B : Below A₀ base outer h₀) (F : Fr h₀ L s.heap m) (X : (hd.heap_39 w.params).In h₀) (N : News h₀ L s.heap news) (T : Top p loose mean mg mb h₀) (hA : A.frames = some (env :: outer)) (hf : env.frame = some L) (hk : env.scope.kind = .function)
    (h1 : A.depth + d < recursionLimit) (h2 : A.units + 20 * d < cLine) (h3 : A.handled = none)
    (ret : ∀ t a b ia ka ib kb xs ys h' tk', Fr h₀ L h' m → News h₀ L h' ((t, tupOf a b) :: (a, listOf ia.toArray ka) :: (b, listOf ib.toArray kb) :: news) → IntsAre ia xs → IntsAre ib ys → P xs ys → Q (.ref t) { s with heap := h', toks := tk' }) :
    wpAny (model PySem.Challenge.rw_nn0009_01.row.prog w) A (call (.ref f) vs) Q E s :=
  H A s Q E rfl (Amb.mk' B F X T hA hf hk h1 h2 h3) fun v h' tk' st ⟨xs, ys, hp, t, a, b, ia, ka, ib, kb, e, ht, ha, hb, i1, i2, ft, fa, fb⟩ => by
    subst e
    exact ret t a b ia ka ib kb xs ys h' tk' (F.grownK st) (News.cons3 F N st hb fb ha fa ht ft) i1 i2 hp
/-- a call whose value is a new tuple of what stood and a new list of ints -/
theorem callU {P : List Int → Prop} {a : Addr} (H : Fn d w f vs s.heap (fun v h' => ∃ ys, P ys ∧ UOut s.heap a ys v h'))
    (B : Below A₀ base outer h₀) (F : Fr h₀ L s.heap m) (X : (hd.heap_39 w.params).In h₀) (N : News h₀ L s.heap news) (T : Top p loose mean mg mb h₀) (hA : A.frames = some (env :: outer)) (hf : env.frame = some L) (hk : env.scope.kind = .function)
    (h1 : A.depth + d < recursionLimit) (h2 : A.units + 20 * d < cLine) (h3 : A.handled = none)
    (ret : ∀ t b ib kb ys h' tk', Fr h₀ L h' m → News h₀ L h' ((t, tupOf a b) :: (b, listOf ib.toArray kb) :: news) → IntsAre ib ys → P ys → Q (.ref t) { s with heap := h', toks := tk' }) :
    wpAny (model PySem.Challenge.rw_nn0009_01.row.prog w) A (call (.ref f) vs) Q E s :=
  H A s Q E rfl (Amb.mk' B F X T hA hf hk h1 h2 h3) fun v h' tk' st ⟨ys, hp, t, b, ib, kb, e, ht, hb, i2, ft, fb⟩ => by
    subst e
    exact ret t b ib kb ys h' tk' (F.grownK st) (News.cons2 F N st hb fb ht ft) i2 hp
end
theorem row_log {W x : Int} (hW : 2 ≤ W ∧ W ≤ 9) {na : List Int} (R : Row (bs W) na x) (hs : na.length ≤ 300) : x.natAbs.log2 < 9000 := by
  have h0 := R.nonneg (bs_pos W)
  have h1 := R.lt (bs_pos W)
  have h2 : x < 2 ^ (W.toNat * na.length) := by rw [Int.pow_mul]; exact h1
  have h3 : x.natAbs < 2 ^ (W.toNat * na.length) := by
    have : ((2 ^ (W.toNat * na.length) : Nat) : Int) = (2 : Int) ^ (W.toNat * na.length) := by simp
    omega
  have h4 : W.toNat * na.length ≤ 9 * 300 := Nat.mul_le_mul (by omega) hs
  rcases Nat.eq_zero_or_pos x.natAbs with e | e
  · rw [e]; decide
  · have := (Nat.log2_lt (Nat.ne_of_gt e)).mpr h3
    omega
theorem News.isL0 {h₀ h : Heap} {L a : Addr} {n : Nat} {news : List (Addr × Obj)} (N : News h₀ L h news) (hm : (a, listOf #[] n) ∈ news) : h.IsList a ([] : List Value).toArray := ⟨_, N.get hm, rfl, _, rfl⟩
section
variable {prog : Program} {w : World} {A : Around} {E : Value → Shared → Prop} {s : Shared} {a b : Addr} {xs ys : List Value} {ns ms : List Int} {Q : Value → Shared → Prop}
theorem eqI_false (ha : s.heap.IsList a xs.toArray) (hb : s.heap.IsList b ys.toArray) (hi : IntsAre xs ns) (hj : IntsAre ys ms) (hn : ns ≠ ms) (hu : A.units + 64 < cLine) (h : Q (.bool false) s) :
    wpAny (model prog w) A (compareOp .Eq (.ref a) (.ref b)) Q E s := ke_eq_ints ha hb hi hj hu (by rw [decide_eq_false hn]; exact h)
theorem eqI_ite (ha : s.heap.IsList a xs.toArray) (hb : s.heap.IsList b ys.toArray) (hi : IntsAre xs ns) (hj : IntsAre ys ms) (hu : A.units + 64 < cLine) (h1 : ns = ms → Q (.bool true) s) (h2 : ns ≠ ms → Q (.bool false) s) :
    wpAny (model prog w) A (compareOp .Eq (.ref a) (.ref b)) Q E s := ke_eq_ints ha hb hi hj hu (by
      by_cases e : ns = ms
      · rw [decide_eq_true e]; exact h1 e
      · rw [decide_eq_false e]; exact h2 e)
theorem neI_ite (ha : s.heap.IsList a xs.toArray) (hb : s.heap.IsList b ys.toArray) (hi : IntsAre xs ns) (hj : IntsAre ys ms) (hu : A.units + 64 < cLine) (h1 : ns ≠ ms → Q (.bool true) s) (h2 : ns = ms → Q (.bool false) s) :
    wpAny (model prog w) A (compareOp .NotEq (.ref a) (.ref b)) Q E s := ke_ne_ints ha hb hi hj hu (by
      by_cases e : ns = ms
      · rw [decide_eq_true e]; exact h2 e
      · rw [decide_eq_false e]; exact h1 e)
end
theorem one_row {W : Int} (hW : 2 ≤ W ∧ W ≤ 9) : Row (bs W) [1] 1 := by
  have := bs_two hW.1
  exact ⟨Lim.cons (by omega) .nil, fun _ => by decide, by simp [val]⟩
theorem barrett_le {B x m : Int} {n : Nat} (hB : 0 < B) (hn : 1 ≤ n) (hx : 0 ≤ x) (hm : 0 < m) : x / B ^ ((n : Int) - 1).toNat * (B ^ (2 * n) / m) / B ^ ((n : Int) + 1).toNat * m ≤ x := by
  rw [show ((n : Int) - 1).toNat = n - 1 by omega, show ((n : Int) + 1).toNat = n + 1 by omega]
  have e : B ^ (2 * n) = B ^ (n + 1) * B ^ (n - 1) := by rw [← Int.pow_add]; congr 1; omega
  have p1 := pow_pos hB (n - 1)
  have p2 := pow_pos hB (n + 1)
  have p3 := pow_pos hB (2 * n)
  have a := Int.ediv_mul_le x (show B ^ (n - 1) ≠ 0 by omega)
  have b := Int.ediv_mul_le (B ^ (2 * n)) (show m ≠ 0 by omega)
  have c := Int.ediv_mul_le (x / B ^ (n - 1) * (B ^ (2 * n) / m)) (show B ^ (n + 1) ≠ 0 by omega)
  have hq := Int.ediv_nonneg hx (Int.le_of_lt p1)
  generalize x / B ^ (n - 1) = q1 at *
  generalize B ^ (2 * n) / m = u at *
  generalize q1 * u / B ^ (n + 1) = g at *
  refine Int.le_of_mul_le_mul_right (a := B ^ (2 * n)) ?_ p3
  have h1 : g * B ^ (n + 1) * (m * B ^ (n - 1)) ≤ q1 * u * (m * B ^ (n - 1)) := Int.mul_le_mul_of_nonneg_right c (Int.mul_nonneg (Int.le_of_lt hm) (Int.le_of_lt p1))
  have h2 : u * m * (q1 * B ^ (n - 1)) ≤ B ^ (2 * n) * (q1 * B ^ (n - 1)) := Int.mul_le_mul_of_nonneg_right b (Int.mul_nonneg hq (Int.le_of_lt p1))
  have h3 : B ^ (2 * n) * (q1 * B ^ (n - 1)) ≤ B ^ (2 * n) * x := Int.mul_le_mul_of_nonneg_left a (Int.le_of_lt p3)
  have e1 : g * m * B ^ (2 * n) = g * B ^ (n + 1) * (m * B ^ (n - 1)) := by rw [e]; grind
  have e2 : q1 * u * (m * B ^ (n - 1)) = u * m * (q1 * B ^ (n - 1)) := by grind
  rw [Int.mul_comm (B ^ (2 * n)) x] at h3
  omega
/-- a list that stood or that the ledger bears -/
def IsLst (h₀ : Heap) (led : List (Addr × Obj)) (a : Addr) (va : List Value) : Prop := h₀.IsList a va.toArray ∨ ∃ n, (a, listOf va.toArray n) ∈ led
theorem IsLst.at' {h₀ h : Heap} {L a : Addr} {m : Str → Option Value} {led news : List (Addr × Obj)} {va : List Value} (H : IsLst h₀ led a va) (F : Fr h₀ L h m) (N : News h₀ L h news) (hs : ∀ p ∈ led, p ∈ news) : h.IsList a va.toArray := by
  rcases H with H | ⟨n, hn⟩
  · exact Fr.lst F H
  · exact News.isL N (hs _ hn)
theorem IsLst.mono {h₀ : Heap} {a : Addr} {led news : List (Addr × Obj)} {va : List Value} (H : IsLst h₀ led a va) (hs : ∀ p ∈ led, p ∈ news) : IsLst h₀ news a va := by
  rcases H with H | ⟨n, hn⟩
  · exact .inl H
  · exact .inr ⟨n, hs _ hn⟩
theorem IsLst.new {h₀ : Heap} {a : Addr} {n : Nat} {news : List (Addr × Obj)} {va : List Value} (hm : (a, listOf va.toArray n) ∈ news) : IsLst h₀ news a va := .inr ⟨n, hm⟩
theorem cmp_facts {x y i : Int} (h : i = if x < y then -1 else if y < x then 1 else 0) : (0 ≤ i ↔ y ≤ x) ∧ (i < 0 ↔ x < y) := by
  subst h
  by_cases h1 : x < y
  · rw [if_pos h1]; omega
  · rw [if_neg h1]
    by_cases h2 : y < x
    · rw [if_pos h2]; omega
    · rw [if_neg h2]; omega
/-- a loop's two lists -/
structure S2 where
  led : List (Addr × Obj)
  a : Addr
  va : List Value
  na : List Int
  x : Int
  b : Addr
  vb : List Value
  nb : List Int
  y : Int
  k : Int
  t : Tok
theorem once_turn {m g r x : Int} (hm : 0 < m) (h : x = g * m + r) (hr : m ≤ r) : x = (g + 1) * m + (r - m) ∧ 0 ≤ r - m ∧ (r - m).toNat < r.toNat := by
  refine ⟨?_, by omega, by omega⟩
  rw [Int.add_mul, Int.one_mul]; omega
theorem once_done {m g r x : Int} (h0 : 0 ≤ r) (h : x = g * m + r) (hr : r < m) : g = x / m ∧ r = x % m := by
  have := ediv_emod_unique' (x := x) (q := g) (r := r) (b := m) (by omega) (by rw [h, Int.mul_comm]; omega) h0 hr
  exact ⟨this.1.symm, this.2.symm⟩
/-- a list that the ledger bears -/
def NewLst (led : List (Addr × Obj)) (a : Addr) (va : List Value) : Prop := ∃ n, (a, listOf va.toArray n) ∈ led
theorem NewLst.at' {h₀ h : Heap} {L a : Addr} {led news : List (Addr × Obj)} {va : List Value} (H : NewLst led a va) (N : News h₀ L h news) (hs : ∀ p ∈ led, p ∈ news) : h.IsList a va.toArray := by
  obtain ⟨n, hn⟩ := H
  exact News.isL N (hs _ hn)
theorem NewLst.new {a : Addr} {n : Nat} {news : List (Addr × Obj)} {va : List Value} (hm : (a, listOf va.toArray n) ∈ news) : NewLst news a va := ⟨n, hm⟩
theorem TOut.mkL {g h' : Heap} {L t a b : Addr} {ia ib : List Value} {xs ys : List Int} {led news : List (Addr × Obj)} (N : News g L h' news) (ht : (t, tupOf a b) ∈ news) (ha : NewLst led a ia) (hb : NewLst led b ib) (hs : ∀ p ∈ led, p ∈ news) (h1 : IntsAre ia xs) (h2 : IntsAre ib ys) : TOut g xs ys (.ref t) h' := by
  obtain ⟨n, hn⟩ := ha
  obtain ⟨k, hk⟩ := hb
  exact TOut.mk N ht (hs _ hn) (hs _ hk) h1 h2
theorem once_len {W m g r x : Int} {na ng : List Int} (R : Row (bs W) na x) (hs : na.length ≤ 100) (hm : 0 < m) (h : x = g * m + r) (hr : m ≤ r) (G : Row (bs W) ng (g + 1)) : ng.length ≤ 100 := by
  have h0 := G.nonneg (bs_pos W)
  have h1 := (once_turn hm h hr).1
  have h2 : (g + 1) * 1 ≤ (g + 1) * m := Int.mul_le_mul_of_nonneg_left (by omega) h0
  exact Nat.le_trans (G.len_mono (bs_pos W) R (by omega)) hs
theorem NewLst.new0 {a : Addr} {n : Nat} {news : List (Addr × Obj)} (hm : (a, listOf #[] n) ∈ news) : NewLst news a [] := ⟨n, hm⟩
theorem spots {l n : Nat} (hn : 1 ≤ n ∧ n ≤ 4) (hl : l ≤ 50) : 0 ≤ ((l : Int) + n - 1).fdiv n ∧ ((l : Int) + n - 1).fdiv n ≤ 60 ∧ 0 ≤ ((l : Int) + n - 1).fdiv n * n ∧ ((l : Int) + n - 1).fdiv n * n ≤ 60 ∧ (l : Int) ≤ ((l : Int) + n - 1).fdiv n * n := by
  rw [Int.fdiv_eq_ediv_of_nonneg _ (by omega)]
  have h1 := Int.emod_add_mul_ediv ((l : Int) + n - 1) n
  have h2 := Int.emod_nonneg ((l : Int) + n - 1) (show (n : Int) ≠ 0 by omega)
  have h3 := Int.emod_lt_of_pos ((l : Int) + n - 1) (show 0 < (n : Int) by omega)
  have h4 : 0 ≤ ((l : Int) + n - 1) / n := Int.ediv_nonneg (by omega) (by omega)
  have h5 : 1 * (((l : Int) + n - 1) / n) ≤ n * (((l : Int) + n - 1) / n) := Int.mul_le_mul_of_nonneg_right (by omega) h4
  rw [Int.mul_comm (n : Int)] at h1 h5
  generalize ((l : Int) + n - 1) / n * n = p at *
  omega
/-- what holds between the turns: the number's top part is divided -/
def DivS (B x m k q r : Int) : Prop := q = B ^ k.toNat * (x / B ^ k.toNat / m) ∧ r = x / B ^ k.toNat % m
theorem DivS.start {B x m k : Int} {na : List Int} (hB : 0 < B) (R : Row B na x) (h : (na.length : Int) ≤ k) : DivS B x m k 0 0 := by
  have h1 := R.lt hB
  have h2 := pow_le_pow hB (m := na.length) (n := k.toNat) (by omega)
  have e : x / B ^ k.toNat = 0 := Int.ediv_eq_zero_of_lt (R.nonneg hB) (by omega)
  unfold DivS
  rw [e]; simp
theorem DivS.step {B x m k n q r z e : Int} (hB : 0 < B) (hm : 0 < m) (hx : 0 ≤ x) (hn : 0 < n) (hk : n ≤ k) (S : DivS B x m k q r) (he : e = n) (hz : z = x / B ^ (k - n).toNat % B ^ e.toNat + B ^ n.toNat * r) :
    DivS B x m (k - n) (q + B ^ (k - n).toNat * (z / m)) (z % m) := by
  subst he
  obtain ⟨h1, h2⟩ := S
  have ek : B ^ k.toNat = B ^ (k - e).toNat * B ^ e.toNat := by rw [← Int.pow_add]; congr 1; omega
  have p1 := pow_pos hB (k - e).toNat
  have p2 := pow_pos hB e.toNat
  have ey : x / B ^ k.toNat = x / B ^ (k - e).toNat / B ^ e.toNat := by rw [ek, Int.ediv_ediv_of_nonneg (Int.le_of_lt p1)]
  rw [ey] at h1 h2
  rw [ek] at h1
  unfold DivS
  generalize x / B ^ (k - e).toNat = y at *
  generalize B ^ (k - e).toNat = P at *
  generalize B ^ e.toNat = F at *
  have a := Int.emod_add_mul_ediv y F
  have b := Int.emod_add_mul_ediv (y / F) m
  have c := Int.emod_add_mul_ediv z m
  have d0 := Int.emod_nonneg z (show m ≠ 0 by omega)
  have d1 := Int.emod_lt_of_pos z hm
  have key : y = z % m + m * (F * (y / F / m) + z / m) := by
    have e1 : F * (y / F) = F * (r + m * (y / F / m)) := by rw [h2, b]
    rw [Int.mul_add] at e1
    rw [Int.mul_add]
    have e2 : m * (F * (y / F / m)) = F * (m * (y / F / m)) := by grind
    omega
  have u := ediv_emod_unique' hm key d0 d1
  refine ⟨?_, u.2.symm⟩
  rw [u.1, h1, Int.mul_add]
  grind
theorem DivS.done {B x m q r : Int} (S : DivS B x m 0 q r) : q = x / m ∧ r = x % m := by
  obtain ⟨h1, h2⟩ := S
  simp at h1 h2
  exact ⟨h1, h2⟩
theorem div_zlen {W y r m e : Int} {n : Nat} {nm nr zs : List Int} (hn : n = nm.length) (Z : Row (bs W) zs (y % bs W ^ e.toNat + bs W ^ (n : Int).toNat * r)) (S : Row (bs W) nm m) (T : Row (bs W) nr r) (hr : r < m) (he : e = n) : zs.length ≤ 2 * nm.length := by
  subst he
  refine Z.len_le (bs_pos W) ?_
  rw [Int.toNat_natCast, ← hn]
  have h1 := Int.emod_lt_of_pos y (pow_pos (bs_pos W) n)
  have h2 := S.lt (bs_pos W)
  rw [← hn] at h2
  have p := pow_pos (bs_pos W) n
  have h3 : bs W ^ n * (r + 1) ≤ bs W ^ n * bs W ^ n := Int.mul_le_mul_of_nonneg_left (by omega) (by omega)
  rw [Int.mul_add, Int.mul_one, ← Int.pow_add] at h3
  rw [show 2 * n = n + n by omega]
  omega
theorem tup_at {h₀ h : Heap} {L t : Addr} {m : Str → Option Value} {xs : Array Value} (F : Fr h₀ L h m) (H : IsTup h₀ t xs) : IsTup h t xs := by
  obtain ⟨o, ho, r⟩ := H
  exact ⟨o, F.keep _ _ ho, r⟩
theorem tup_new {h₀ h : Heap} {L t a b : Addr} {news : List (Addr × Obj)} (N : News h₀ L h news) (hm : (t, tupOf a b) ∈ news) : IsTup h t #[.ref a, .ref b] := ⟨_, N.get hm, rfl, _, rfl⟩
theorem DivS.le {B x m k q r : Int} (hB : 0 < B) (hm : 0 < m) (hx : 0 ≤ x) (S : DivS B x m k q r) : q ≤ x := by
  obtain ⟨h1, _⟩ := S
  have p := pow_pos hB k.toNat
  have a := Int.mul_ediv_self_le (x := x) (k := B ^ k.toNat) (by omega)
  have b := Int.ediv_le_self m (Int.ediv_nonneg hx (Int.le_of_lt p))
  have c := Int.mul_le_mul_of_nonneg_left b (Int.le_of_lt p)
  omega
theorem DivS.len {W x m k q r : Int} {na xs : List Int} (Z : Row (bs W) xs q) (S : DivS (bs W) x m k q r) (R : Row (bs W) na x) (hs : na.length ≤ 50) (hm : 0 < m) : xs.length ≤ 100 := by
  have h := Z.len_mono (bs_pos W) R (S.le (bs_pos W) hm (R.nonneg (bs_pos W)))
  omega
theorem rest_len {B m z : Int} {nm ys : List Int} (hB : 0 < B) (Z : Row B ys (z % m)) (S : Row B nm m) (hm : 0 < m) (h4 : nm.length ≤ 4) : ys.length ≤ 4 :=
  Nat.le_trans (Z.len_mono hB S (Int.le_of_lt (Int.emod_lt_of_pos _ hm))) h4
theorem div_end {B x m k q r : Int} {xs ys : List Int} (hk0 : 0 ≤ k) (hk : ¬ 0 < k) (S : DivS B x m k q r) (Q : Row B xs q) (R : Row B ys r) : Row B xs (x / m) ∧ Row B ys (x % m) := by
  have : k = 0 := by omega
  subst this
  rw [← S.done.1, ← S.done.2]
  exact ⟨Q, R⟩
/-- a value that is a new list of ints or what was handed in -/
def ROut (g : Heap) (la : Addr) (va : List Value) (xs : List Int) (v : Value) (h' : Heap) : Prop := ∃ r its, v = .ref r ∧ IntsAre its xs ∧ ((∃ n, h'.get? r = some (listOf its.toArray n) ∧ g.get? r = none) ∨ (r = la ∧ its = va))
theorem ROut.mkNew {g h' : Heap} {L a la : Addr} {va its : List Value} {n : Nat} {xs : List Int} {news : List (Addr × Obj)} (N : News g L h' news) (hm : (a, listOf its.toArray n) ∈ news) (hi : IntsAre its xs) : ROut g la va xs (.ref a) h' := ⟨a, its, rfl, hi, .inl ⟨n, N.get hm, N.fresh hm⟩⟩
theorem ROut.mkNil {g h' : Heap} {L a la : Addr} {va : List Value} {n : Nat} {news : List (Addr × Obj)} (N : News g L h' news) (hm : (a, listOf #[] n) ∈ news) : ROut g la va [] (.ref a) h' := ⟨a, [], rfl, .nil, .inl ⟨n, N.get hm, N.fresh hm⟩⟩
/-- a list that was handed in or that the ledger bears -/
def ArgLst (la : Addr) (va : List Value) (led : List (Addr × Obj)) (a : Addr) (its : List Value) : Prop := (a = la ∧ its = va) ∨ ∃ n, (a, listOf its.toArray n) ∈ led
theorem ArgLst.arg {la : Addr} {va : List Value} {led : List (Addr × Obj)} : ArgLst la va led la va := .inl ⟨rfl, rfl⟩
theorem ArgLst.new {la : Addr} {va its : List Value} {led : List (Addr × Obj)} {a : Addr} {n : Nat} (hm : (a, listOf its.toArray n) ∈ led) : ArgLst la va led a its := .inr ⟨n, hm⟩
theorem ArgLst.at' {h₀ h : Heap} {L a la : Addr} {m : Str → Option Value} {led news : List (Addr × Obj)} {va its : List Value} (H : ArgLst la va led a its) (hl : h₀.IsList la va.toArray) (F : Fr h₀ L h m) (N : News h₀ L h news) (hs : ∀ p ∈ led, p ∈ news) : h.IsList a its.toArray := by
  rcases H with ⟨rfl, rfl⟩ | ⟨n, hn⟩
  · exact Fr.lst F hl
  · exact News.isL N (hs _ hn)
theorem ROut.mkArg {g h' : Heap} {L a la : Addr} {va its : List Value} {xs : List Int} {led news : List (Addr × Obj)} (H : ArgLst la va led a its) (N : News g L h' news) (hs : ∀ p ∈ led, p ∈ news) (hi : IntsAre its xs) : ROut g la va xs (.ref a) h' := by
  rcases H with ⟨rfl, rfl⟩ | ⟨n, hn⟩
  · exact ⟨_, _, rfl, hi, .inr ⟨rfl, rfl⟩⟩
  · exact ROut.mkNew N (hs _ hn) hi
theorem ones_turn {N x y : Int} (hN : 2 ≤ N) (hx : 0 ≤ x) (hy : x / N ≠ 0) (D : (N - 1) ∣ y - x) : (N - 1) ∣ y - (x % N + x / N) ∧ 0 ≤ x % N + x / N ∧ x % N + x / N < x := by
  have e := Int.emod_add_mul_ediv x N
  have h0 := Int.emod_nonneg x (show N ≠ 0 by omega)
  have h1 : 0 ≤ x / N := Int.ediv_nonneg hx (by omega)
  have h2 : 2 * (x / N) ≤ N * (x / N) := Int.mul_le_mul_of_nonneg_right hN h1
  refine ⟨?_, by omega, by omega⟩
  have : y - (x % N + x / N) = (y - x) + (N - 1) * (x / N) := by
    rw [Int.sub_mul, Int.one_mul]; omega
  rw [this]
  exact Int.dvd_add D (Int.dvd_mul_right _ _)
theorem ones_mod {M x y : Int} (hM : 0 < M) (D : M ∣ y - x) (h0 : 0 ≤ x) (h1 : x < M) : x = y % M := by
  obtain ⟨k, hk⟩ := D
  exact ((ediv_emod_unique' (q := k) hM (by omega) h0 h1).2).symm
theorem ones_end1 {B N x y : Int} {na no : List Int} (hN : 2 ≤ N) (R : Row B na x) (O : Row B no (N - 1)) (e : na = no) (D : (N - 1) ∣ y - x) : Row B [] (y % (N - 1)) := by
  have h : x = N - 1 := by rw [← R.val, ← O.val, e]
  subst h
  have : (N - 1) ∣ y := (Int.dvd_iff_dvd_of_dvd_sub D).mpr (Int.dvd_refl _)
  rw [Int.emod_eq_zero_of_dvd this]
  exact Row.nil
theorem ones_end2 {B N x y : Int} {na no ys : List Int} (hB : 0 < B) (hN : 2 ≤ N) (A : Row B ys (x / N)) (ea : ys = []) (R : Row B na x) (O : Row B no (N - 1)) (e : na ≠ no) (D : (N - 1) ∣ y - x) : Row B na (y % (N - 1)) := by
  have hx : x / N = 0 := (A.nil_iff hB).mp ea
  have h0 := R.nonneg hB
  have h1 : x < N := by
    have e := Int.emod_add_mul_ediv x N
    have h := Int.emod_lt_of_pos x (show 0 < N by omega)
    rw [hx, Int.mul_zero] at e
    omega
  have h2 : x ≠ N - 1 := fun h => e (R.uniq hB (h ▸ O))
  rw [← ones_mod (by omega) D h0 (by omega)]
  exact R
theorem ones_turn' {B N x y : Int} {ys na xs : List Int} (hB : 0 < B) (hN : 2 ≤ N) (R : Row B na x) (A : Row B ys (x / N)) (ea : ys ≠ []) (D : (N - 1) ∣ y - x) : (N - 1) ∣ y - (x % N + x / N) ∧ 0 ≤ x % N + x / N ∧ x % N + x / N < x :=
  ones_turn hN (R.nonneg hB) (fun h => ea ((A.nil_iff hB).mpr h)) D
theorem NewLst.mono {a : Addr} {led news : List (Addr × Obj)} {va : List Value} (H : NewLst led a va) (hs : ∀ p ∈ led, p ∈ news) : NewLst news a va := by
  obtain ⟨n, hn⟩ := H
  exact ⟨n, hs _ hn⟩
/-- the state of rest_one_more's loop -/
structure S3 where
  led : List (Addr × Obj)
  a : Addr
  va : List Value
  na : List Int
  x : Int
  b : Addr
  vb : List Value
  nb : List Int
  y : Int
  s : Bool
  c : Addr
  vc : List Value
  nc : List Int
def MoreS (M x a f : Int) (s : Bool) : Prop := 0 ≤ f ∧ f < M ∧ M ∣ x - f - (if s = true then -a else a)
theorem MoreS.start {M x : Int} (hM : 0 < M) : MoreS M x x 0 false := ⟨Int.le_refl _, hM, by simp⟩
theorem MoreS.done {M x f : Int} {s : Bool} (S : MoreS M x 0 f s) : f = x % M := by
  obtain ⟨h0, h1, h2⟩ := S
  exact ones_mod (by omega) (by simpa using h2) h0 h1
theorem MoreS.up {N x a f : Int} (hN : 0 < N) (S : MoreS (N + 1) x a f false) : (N + 1) ∣ x - (f + a % N) - -(a / N) := by
  obtain ⟨_, _, h⟩ := S
  simp only [Bool.false_eq_true, if_false] at h
  have e := Int.emod_add_mul_ediv a N
  have : x - (f + a % N) - -(a / N) = (x - f - a) + (N + 1) * (a / N) := by rw [Int.add_mul, Int.one_mul]; omega
  rw [this]
  exact Int.dvd_add h (Int.dvd_mul_right _ _)
theorem MoreS.down {N x a f : Int} (hN : 0 < N) (S : MoreS (N + 1) x a f true) : (N + 1) ∣ x - (f - a % N) - a / N := by
  obtain ⟨_, _, h⟩ := S
  simp only [if_true] at h
  have e := Int.emod_add_mul_ediv a N
  have : x - (f - a % N) - a / N = (x - f - -a) - (N + 1) * (a / N) := by rw [Int.add_mul, Int.one_mul]; omega
  rw [this]
  exact Int.dvd_sub h (Int.dvd_mul_right _ _)
theorem MoreS.up1 {N x a f : Int} (hN : 2 ≤ N) (S : MoreS (N + 1) x a f false) (h : N + 1 ≤ f + a % N) : MoreS (N + 1) x (a / N) (f + a % N - (N + 1)) true := by
  have d := S.up (by omega)
  have b := Int.emod_lt_of_pos a (show 0 < N by omega)
  refine ⟨by omega, by have := S.2.1; omega, ?_⟩
  simp only [if_true]
  have : x - (f + a % N - (N + 1)) - -(a / N) = (x - (f + a % N) - -(a / N)) + (N + 1) := by omega
  rw [this]
  exact Int.dvd_add d (Int.dvd_refl _)
theorem MoreS.up0 {N x a f : Int} (hN : 2 ≤ N) (S : MoreS (N + 1) x a f false) (h : f + a % N < N + 1) : MoreS (N + 1) x (a / N) (f + a % N) true := by
  have b := Int.emod_nonneg a (show N ≠ 0 by omega)
  exact ⟨by have := S.1; omega, h, by simp only [if_true]; exact S.up (by omega)⟩
theorem MoreS.down1 {N x a f : Int} (hN : 2 ≤ N) (S : MoreS (N + 1) x a f true) (h : a % N ≤ f) : MoreS (N + 1) x (a / N) (f - a % N) false := by
  have b := Int.emod_nonneg a (show N ≠ 0 by omega)
  exact ⟨by omega, by have := S.2.1; omega, by simp only [Bool.false_eq_true, if_false]; exact S.down (by omega)⟩
theorem MoreS.down0 {N x a f : Int} (hN : 2 ≤ N) (S : MoreS (N + 1) x a f true) (h : f < a % N) : MoreS (N + 1) x (a / N) (f + (N + 1) - a % N) false := by
  have d := S.down (by omega)
  have b := Int.emod_lt_of_pos a (show 0 < N by omega)
  refine ⟨by have := S.1; omega, by omega, ?_⟩
  simp only [Bool.false_eq_true, if_false]
  have : x - (f + (N + 1) - a % N) - a / N = (x - (f - a % N) - a / N) - (N + 1) := by omega
  rw [this]
  exact Int.dvd_sub d (Int.dvd_refl _)
theorem more_len {W M f : Int} {nm xs : List Int} {s : Bool} {x a : Int} (Z : Row (bs W) xs f) (S : Row (bs W) nm M) (h : MoreS M x a f s) (hm : nm.length ≤ 32) : xs.length ≤ 50 := by
  have := Z.len_mono (bs_pos W) S (Int.le_of_lt h.2.1)
  omega
theorem more_less {N a : Int} {na : List Int} {B : Int} (hB : 0 < B) (hN : 2 ≤ N) (R : Row B na a) (h : na ≠ []) : (a / N).toNat < a.toNat := by
  have h0 := R.pos_of hB h
  have : a / N < a := Int.ediv_lt_of_lt_mul (by omega) (by
    have : a * 2 ≤ a * N := Int.mul_le_mul_of_nonneg_left hN (by omega)
    omega)
  omega
theorem more_end {B M x a f : Int} {na : List Int} {s : Bool} (hB : 0 < B) (R : Row B na a) (e : na = []) (S : MoreS M x a f s) {nb : List Int} (Q : Row B nb f) : Row B nb (x % M) := by
  have : a = 0 := (R.nil_iff hB).mp e
  subst this
  rw [← S.done]; exact Q
theorem LOut.mkL {g h' : Heap} {L a : Addr} {its : List Value} {xs : List Int} {led news : List (Addr × Obj)} (H : NewLst led a its) (N : News g L h' news) (hs : ∀ p ∈ led, p ∈ news) (hi : IntsAre its xs) : LOut g xs (.ref a) h' := by
  obtain ⟨n, hn⟩ := H
  exact LOut.mk N (hs _ hn) hi

/-- the heap without one object -/
def hide (h : Heap) (b : Addr) : Heap := h.update b fun o => { o with data := .freed }
theorem hide_size (h : Heap) (b : Addr) : (hide h b).objs.size = h.objs.size := Heap.size_after_update h b _
theorem hide_ne {h : Heap} {a b : Addr} (hab : a ≠ b) : (hide h b).get? a = h.get? a := Heap.get?_update_other h _ (Ne.symm hab)
theorem hide_self (h : Heap) (b : Addr) : (hide h b).get? b = none := by
  unfold Heap.get?
  have e : (hide h b).objs[b]? = h.objs[b]?.map fun o => { o with data := .freed } := Heap.objs_update_self h b _
  rw [e]
  cases h.objs[b]? with
  | none => rfl
  | some o => rfl
theorem hide_sub {h : Heap} {a b : Addr} {o : Obj} (e : (hide h b).get? a = some o) : a ≠ b ∧ h.get? a = some o := by
  have hab : a ≠ b := by
    intro h1
    rw [h1, hide_self] at e
    cases e
  exact ⟨hab, by rw [hide_ne hab] at e; exact e⟩
theorem Fr.hide {h₀ h : Heap} {L b : Addr} {m : Str → Option Value} (F : Fr h₀ L h m) (hL : L ≠ b) (h0 : h₀.get? b = none) : Fr h₀ L (Mine.hide h b) m := by
  refine ⟨?_, fun a o e => ?_, F.above⟩
  · obtain ⟨o, es, ep, h1, r⟩ := F.ns
    exact ⟨o, es, ep, (hide_ne hL).trans h1, r⟩
  · have : a ≠ b := by
      intro h1
      rw [h1, h0] at e
      cases e
    rw [hide_ne this]
    exact F.keep a o e
/-- f, called with vs on the heap g, ends with a value of which Out is true, and leaves g's objects but b as they are -/
def FnB (d : Nat) (w : World) (f : Addr) (vs : List Value) (g : Heap) (b : Addr) (Out : Value → Heap → Prop) : Prop :=
  ∀ (A : Around) (s : Shared) (Q E : Value → Shared → Prop), s.heap = g → Amb d w A (hide g b) →
    (∀ v h' tk', (hide g b).StaysIn h' → Out v h' → Q v { s with heap := h', toks := tk' }) →
    wpAny (model PySem.Challenge.rw_nn0009_01.row.prog w) A (call (.ref f) vs) Q E s
theorem enterB {d : Nat} {w : World} {f b : Addr} {bo : Obj} {vs : List Value} {g : Heap} {Out : Value → Heap → Prop} {name qual : Str} {params : Arguments} {body : List Stmt} {scope : Scope} {dV kV doc pm cdv ct oc : Value} {an od : Option Addr} {osl : Array (Option Value)} {binds : List (Str × Value)}
    (hbo : g.get? b = some bo)
    (ho : (hd.heap_39 w.params).lookup f = some ⟨oc, od, .func (fnOf name qual params body scope dV kV doc pm an cdv ct), osl⟩) (hcd : codeIn (hd.heap_39 w.params) cdv qual = true)
    (hbind : ∀ s, BindsTo s (fnOf name qual params body scope dV kV doc pm an cdv ct) ⟨vs, []⟩ binds) (hloc : ∀ y ∈ binds, scope.names.lookup y.1 = some .local)
    (hcell : ∀ x ∈ scope.names, x.2 ≠ .cell) (hco : scope.isCoroutine = false) (hgen : scope.isGenerator = false) (hk : scope.kind = .function)
    (h : ∀ (dp un : Nat) (gd : Option (List Code)) (outer : List Env) (base : Heap) (A₀ : Around) (p : Program) (loose : List Str) (mean : ExcName → Option Value) (mg mb : Str → Option Value) (L' : Addr) (h₁ : Heap) (s : Shared) (Q' : Flow → Shared → Prop),
      dp + d < recursionLimit → un + 20 * d < cLine → Below A₀ base outer (hide g b) → (hd.heap_39 w.params).In (hide g b) → Top p loose mean mg mb (hide g b) → Fr (hide g b) L' h₁ (fun y => binds.reverse.lookup y) → News (hide g b) L' h₁ [(b, bo)] →
      (∀ v h' tk', (hide g b).StaysIn h' → Out v h' → Q' (.ret v) { s with heap := h', toks := tk' }) →
      wpAny (model PySem.Challenge.rw_nn0009_01.row.prog w) (ktrTop dp un gd qual scope L' f cdv [] outer) (execs body (envOf qual scope L' f cdv)) Q' (fun _ _ => False) { s with heap := h₁, toks := s.toks + binds.length }) :
    FnB (d + 1) w f vs g b Out := by
  rintro ⟨hh, dp, fr, gd, un⟩ s Q E rfl ⟨⟨p, loose, mean, mg, mb, base, outer, env, A₀, h₀, L, m, B, F, X, T, hA, hf, hke⟩, h1, h2, h3⟩ ret
  dsimp only at hA h1 h2 h3
  subst hA h3
  refine wpAny_call ?_
  have hroom : dp < recursionLimit := by omega
  have X' : (hd.heap_39 w.params).In (hide s.heap b) := X.keeps F.keep
  have X'' : (hd.heap_39 w.params).In s.heap := X'.keeps fun a o e => (hide_sub e).2
  have B1 : Below { handled := none, depth := dp, frames := some (env :: outer), guards := gd, units := un } base (env :: outer) (hide s.heap b) :=
    ⟨rfl, fun b o e => F.keep b o (B.stays b o e), (pushX B F hf hke).frames⟩
  have T' := T.keeps F.keep
  refine codeAny_call_def (fd := fnOf name qual params body scope dV kV doc pm an cdv ct) (body := body) (binds := binds) hroom (X'' _ _ ho) rfl (T'.nolimit.keeps fun a o e => (hide_sub e).2) (codeRec_of X'' hcd) rfl (hbind s) hcell hloc (fun h₁ hns hk₁ => ?_) hco hgen hk
  have F' : Fr (hide s.heap b) s.heap.objs.size h₁ (fun y => binds.reverse.lookup y) := ⟨hns, fun a o e => hk₁ a o (hide_sub e).2, by rw [hide_size]; exact Nat.le_refl _⟩
  have N' : News (hide s.heap b) s.heap.objs.size h₁ [(b, bo)] := by
    intro p hp
    rw [List.mem_singleton.mp hp]
    exact ⟨hk₁ _ _ hbo, Nat.ne_of_lt (Heap.lt_size hbo), hide_self _ _⟩
  have h1' : (dp + 1) + d < recursionLimit := by omega
  have h2' : (un + 3) + 20 * d < cLine := by omega
  refine wpAny_mono (h (dp + 1) (un + 3) gd (env :: outer) base _ p loose mean mg mb _ h₁ s (fun fl s' => Q (match fl with | .ret v => v | _ => .none) s')
    h1' h2' B1 X' T' F' N' ret) (fun fl s' q => ?_) fun _ _ q => q.elim
  exact q
section
variable {d : Nat} {w : World} {f b : Addr} {bo : Obj} {gg : Obj → List (Addr × Obj)} {vs : List Value} {A : Around} {s : Shared} {Q E : Value → Shared → Prop} {p : Program} {loose : List Str} {mean : ExcName → Option Value} {mg mb : Str → Option Value} {base : Heap} {outer : List Env} {env : Env} {A₀ : Around} {h₀ : Heap} {L : Addr} {m : Str → Option Value} {news : List (Addr × Obj)}
/-- a call that gives an int and changes b -/
theorem callB {P : Int → Obj → Prop} (H : FnB d w f vs s.heap b (fun v h' => ∃ i t bo', P i bo' ∧ v = .int i t ∧ h'.get? b = some bo'))
    (B : Below A₀ base outer h₀) (F : Fr h₀ L s.heap m) (X : (hd.heap_39 w.params).In h₀) (N : News h₀ L s.heap news) (T : Top p loose mean mg mb h₀) (hA : A.frames = some (env :: outer)) (hf : env.frame = some L) (hk : env.scope.kind = .function)
    (h1 : A.depth + d < recursionLimit) (h2 : A.units + 20 * d < cLine) (h3 : A.handled = none) (U : UpdF b bo news gg)
    (ret : ∀ i t bo' h' tk', Fr h₀ L h' m → News h₀ L h' (gg bo') → P i bo' → Q (.int i t) { s with heap := h', toks := tk' }) :
    wpAny (model PySem.Challenge.rw_nn0009_01.row.prog w) A (call (.ref f) vs) Q E s := by
  obtain ⟨pre, post, rfl, hg, a, c⟩ := U.split
  have hb : (b, bo) ∈ pre ++ (b, bo) :: post := List.mem_append.mpr (.inr (.head _))
  have F2 := Fr.hide F (fun e => (N _ hb).2.1 e.symm) (N _ hb).2.2
  refine H A s Q E rfl (Amb.mk' B F2 X T hA hf hk h1 h2 h3) fun v h' tk' st ⟨i, t, bo', hp, e, ho⟩ => ?_
  subst e
  refine ret i t bo' h' tk' (F2.grownK st) ?_ hp
  rw [hg]
  have key : ∀ q ∈ pre ++ (b, bo) :: post, q.1 ≠ b → h'.get? q.1 = some q.2 ∧ q.1 ≠ L ∧ h₀.get? q.1 = none := fun q hq hn => ⟨st _ _ ((hide_ne hn).trans (N q hq).1), (N q hq).2⟩
  intro q hq
  rcases List.mem_append.mp hq with hq | hq
  · exact key q (List.mem_append.mpr (.inl hq)) (a q hq)
  · rcases List.mem_cons.mp hq with rfl | hq
    · exact ⟨ho, (N _ hb).2⟩
    · exact key q (List.mem_append.mpr (.inr (.tail _ hq))) (c q hq)
end
/-- the box -/
abbrev boxOf (i : Int) (t : Tok) (l : Addr) (r : Int) (u : Tok) (n : Nat) : Obj := listOf #[.int i t, .ref l, .int r u] n
def BoxIs (l : Addr) (i : Int) (o : Obj) : Prop := ∃ t r u n, o = boxOf i t l r u n ∧ 0 ≤ r ∧ r < 18446744073709551616
theorem hide_list {g : Heap} {b l : Addr} {xs : Array Value} (h : g.IsList l xs) (hlb : l ≠ b) : (hide g b).IsList l xs := by
  obtain ⟨o, ho, r⟩ := h
  exact ⟨o, (hide_ne hlb).trans ho, r⟩
theorem fmod_in {x m : Int} (hm : 0 < m) : 0 ≤ x.fmod m ∧ x.fmod m < m := ⟨Int.fmod_nonneg_of_pos x hm, Int.fmod_lt_of_pos x hm⟩
theorem p64 : ((2 : Int) ^ Int.toNat 64) = 18446744073709551616 := by decide
theorem d16 : ((2 : Int) ^ Int.toNat 16) = 65536 := by decide
theorem d40 : ((2 : Int) ^ Int.toNat 40) = 1099511627776 := by decide
theorem nz64 : ((2 : Int) ^ Int.toNat 64) ≠ 0 := by rw [p64]; decide
theorem nz16 : ((2 : Int) ^ Int.toNat 16) ≠ 0 := by rw [d16]; decide
theorem lg16 : ((2 : Int) ^ Int.toNat 16).natAbs.log2 < 9000 := by rw [d16]; decide +kernel
theorem lg3 : (3 : Int).natAbs.log2 < 9000 := by decide +kernel
theorem b40 : Builtin.Int.intBits ((2 : Int) ^ Int.toNat 40) ≤ 64 := by rw [d40]; exact PySem.intBits_le_64 (by decide) (by decide)
theorem bits_r {r : Int} (h : 0 ≤ r ∧ r < 18446744073709551616) : Builtin.Int.intBits r ≤ 64 := PySem.intBits_le_64 (by omega) (by omega)
theorem next_r (x : Int) : 0 ≤ x.fmod (2 ^ Int.toNat 64) ∧ x.fmod (2 ^ Int.toNat 64) < 18446744073709551616 := by
  rw [p64]
  exact fmod_in (by decide)
theorem size_cap {W k m : Int} (hW : 2 ≤ W) (hk : 0 ≤ k ∧ k < m) : (2 : Int) ^ (W * (1 + k)).toNat ≤ bs W ^ m.toNat := by
  have e : (2 : Int) ^ (W * (1 + k)).toNat = bs W ^ (1 + k).toNat := by
    show _ = (2 ^ W.toNat) ^ (1 + k).toNat
    rw [← Int.pow_mul]
    congr 1
    have : ((W.toNat * (1 + k).toNat : Nat) : Int) = W * (1 + k) := by rw [Int.natCast_mul, Int.toNat_of_nonneg (by omega), Int.toNat_of_nonneg (by omega)]
    omega
  rw [e]
  exact pow_le_pow (bs_pos W) (by omega)
theorem size_of {W k m v : Int} (hW : 2 ≤ W) (hk : 0 ≤ k ∧ k < m) (h : 0 ≤ v ∧ v < 2 ^ (W * (1 + k)).toNat) : 0 ≤ v ∧ v < bs W ^ m.toNat := ⟨h.1, Int.lt_of_lt_of_le h.2 (size_cap hW hk)⟩
theorem size_two {e : Int} (h : 2 ≤ e) {v : Int} (hv : 0 ≤ v ∧ v < 2) : 0 ≤ v ∧ v < 2 ^ e.toNat := by
  have := pow_le_pow (B := 2) (by decide) (m := 1) (n := e.toNat) (by omega)
  have e1 : (2 : Int) ^ 1 = 2 := by decide
  omega
theorem size_pow {e f c : Int} (h : 2 ≤ e) (hf : f + 1 ≤ e) (hc : -1 ≤ c ∧ c ≤ 1) : 0 ≤ 2 ^ f.toNat - c ∧ 2 ^ f.toNat - c < 2 ^ e.toNat := by
  have a := pow_le_pow (B := 2) (by decide) (m := f.toNat) (n := e.toNat - 1) (by omega)
  have b := pow_le_pow (B := 2) (by decide) (m := 1) (n := e.toNat - 1) (by omega)
  have e1 : (2 : Int) ^ 1 = 2 := by decide
  have e2 : (2 : Int) ^ e.toNat = 2 ^ (e.toNat - 1) * 2 := by rw [← Int.pow_succ]; congr 1; omega
  have p : (0 : Int) < 2 ^ f.toNat := Int.pow_pos (by decide)
  omega
theorem size_top {e : Int} : 0 ≤ (2 : Int) ^ e.toNat - 1 ∧ (2 : Int) ^ e.toNat - 1 < 2 ^ e.toNat := by
  have p : (0 : Int) < 2 ^ e.toNat := Int.pow_pos (by decide)
  omega
theorem one_le_two (n : Nat) : (1 : Int) ≤ 2 ^ n := by
  have p : (0 : Int) < 2 ^ n := Int.pow_pos (by decide)
  omega
section
variable {prog : Program} {w : World} {A : Around} {E : Value → Shared → Prop} {s : Shared} {env : Env} {h₀ : Heap} {x : Str} {body : List Stmt} {Q : Flow → Shared → Prop}
theorem box_loop {b l : Addr} {t u₀ : Tok} {n nn : Nat} {vs : List Value} {ns : List Int} {rest : List (Addr × Obj)} {r₀ : Int} {m₀ : Str → Option Value}
    (hh : A.handled = none) (hi : IntsAre vs ns) (F : Fr h₀ env.locals s.heap m₀) (N : News h₀ env.locals s.heap ((b, boxOf (-1) t l r₀ u₀ n) :: (l, listOf vs.toArray nn) :: rest)) (h0 : 0 ≤ r₀ ∧ r₀ < 18446744073709551616)
    (turn : ∀ (c : Int × Tok) pre post k tk' (u : Str → Option Value) h tk own, ns = pre ++ k :: post → k ∈ ns → OwnOff own (((fun c : Int × Tok => (b, boxOf (-1) t l c.1 c.2 n) :: (l, listOf vs.toArray nn) :: rest) (r₀, u₀)).map (·.1)) → True → (0 ≤ c.1 ∧ c.1 < 18446744073709551616) →
      Fr h₀ env.locals h (fun y => if y = x then some (.int k tk') else kstB (fun z => if ([] : List Str).contains z then u z else m₀ z) ((fun _ : Int × Tok => []) c) y) → News h₀ env.locals h ((fun c : Int × Tok => (b, boxOf (-1) t l c.1 c.2 n) :: (l, listOf vs.toArray nn) :: rest) c ++ own) →
      wpAny (model prog w) A (execs body env) (InvPostN h₀ env.locals (KstS (fun c : Int × Tok => (b, boxOf (-1) t l c.1 c.2 n) :: (l, listOf vs.toArray nn) :: rest) (fun _ => []) (fun _ => True) x [] m₀ (fun _ c => 0 ≤ c.1 ∧ c.1 < 18446744073709551616) (pre ++ [k])) own (((fun c : Int × Tok => (b, boxOf (-1) t l c.1 c.2 n) :: (l, listOf vs.toArray nn) :: rest) (r₀, u₀)).map (·.1)) { s with heap := h, toks := tk } Q) E { s with heap := h, toks := tk })
    (done : ∀ (c : Int × Tok) (u : Str → Option Value) h tk, True → (0 ≤ c.1 ∧ c.1 < 18446744073709551616) → Fr h₀ env.locals h (fun y => if y = x then u y else kstB (fun z => if ([] : List Str).contains z then u z else m₀ z) ((fun _ : Int × Tok => []) c) y) → News h₀ env.locals h ((fun c : Int × Tok => (b, boxOf (-1) t l c.1 c.2 n) :: (l, listOf vs.toArray nn) :: rest) c) → Q .next { s with heap := h, toks := tk }) :
    wpAny (model prog w) A (pyIter (.ref l)) (fun it s₂ => LoopAtV prog w A h₀ env x body Q E it s₂) E s :=
  kst_listL (σ := Int × Tok) (fun c => (b, boxOf (-1) t l c.1 c.2 n) :: (l, listOf vs.toArray nn) :: rest) (fun _ => []) (fun _ => True) [] (fun _ c => 0 ≤ c.1 ∧ c.1 < 18446744073709551616) (r₀, u₀) hh (fun c => .tail _ (.head _)) hi F N trivial (fun _ h => nomatch h) h0 turn done
end
def AllNe (d : Nat) : List (Addr × Obj) → Prop
  | [] => True
  | p :: r => @Ne Nat p.1 d ∧ AllNe d r
theorem allNe_of {d : Addr} : ∀ {l : List (Addr × Obj)}, (∀ p ∈ l, p.1 ≠ d) → AllNe d l
  | [], _ => trivial
  | p :: _, h => ⟨h p (.head _), allNe_of fun q hq => h q (.tail _ hq)⟩
theorem allNe_new {h₀ h : Heap} {L b : Addr} {news : List (Addr × Obj)} (N : News h₀ L h news) (fb : h.get? b = none) : AllNe b news := allNe_of fun q hq e => by
  have := (N q hq).1
  rw [e, fb] at this
  cases this
def BoxOut (g : Heap) (v : Value) (h' : Heap) : Prop := ∃ b l t r u n its k xs, v = .ref b ∧ h'.get? b = some (boxOf (-1) t l r u n) ∧ h'.get? l = some (listOf its.toArray k) ∧ IntsAre its xs ∧ xs.length ≤ 63 ∧ 0 ≤ r ∧ r < 18446744073709551616 ∧ g.get? b = none ∧ g.get? l = none ∧ l ≠ b
section
variable {d : Nat} {w : World} {f : Addr} {vs : List Value} {A : Around} {s : Shared} {Q E : Value → Shared → Prop} {p : Program} {loose : List Str} {mean : ExcName → Option Value} {mg mb : Str → Option Value} {base : Heap} {outer : List Env} {env : Env} {A₀ : Around} {h₀ : Heap} {L : Addr} {m : Str → Option Value} {news : List (Addr × Obj)}
theorem callBox (H : Fn d w f vs s.heap (BoxOut s.heap))
    (B : Below A₀ base outer h₀) (F : Fr h₀ L s.heap m) (X : (hd.heap_39 w.params).In h₀) (N : News h₀ L s.heap news) (T : Top p loose mean mg mb h₀) (hA : A.frames = some (env :: outer)) (hf : env.frame = some L) (hk : env.scope.kind = .function)
    (h1 : A.depth + d < recursionLimit) (h2 : A.units + 20 * d < cLine) (h3 : A.handled = none)
    (ret : ∀ b l t r u n its k xs h' tk', Fr h₀ L h' m → News h₀ L h' ((b, boxOf (-1) t l r u n) :: (l, listOf its.toArray k) :: news) → IntsAre its xs → xs.length ≤ 63 → (0 ≤ r ∧ r < 18446744073709551616) → @Ne Nat l b → AllNe b news → Q (.ref b) { s with heap := h', toks := tk' }) :
    wpAny (model PySem.Challenge.rw_nn0009_01.row.prog w) A (call (.ref f) vs) Q E s :=
  H A s Q E rfl (Amb.mk' B F X T hA hf hk h1 h2 h3) fun v h' tk' st ⟨b, l, t, r, u, n, its, k, xs, e, ho, hl, hi, hs, r0, r1, fb, fl, hne⟩ => by
    subst e
    exact ret b l t r u n its k xs h' tk' (F.grownK st) (News.cons2 F N st hl fl ho fb) hi hs ⟨r0, r1⟩ hne (allNe_new N fb)
/-- a call whose value is an argument or a new list of ints -/
theorem callR {P : List Int → Prop} {la : Addr} {va : List Value} (H : Fn d w f vs s.heap (fun v h' => ∃ xs, P xs ∧ ROut s.heap la va xs v h'))
    (B : Below A₀ base outer h₀) (F : Fr h₀ L s.heap m) (X : (hd.heap_39 w.params).In h₀) (N : News h₀ L s.heap news) (T : Top p loose mean mg mb h₀) (hA : A.frames = some (env :: outer)) (hf : env.frame = some L) (hk : env.scope.kind = .function)
    (h1 : A.depth + d < recursionLimit) (h2 : A.units + 20 * d < cLine) (h3 : A.handled = none)
    (ret : ∀ r its xs led h' tk', Fr h₀ L h' m → News h₀ L h' (led ++ news) → ((r = la ∧ its = va) ∨ NewLst led r its) → IntsAre its xs → P xs → Q (.ref r) { s with heap := h', toks := tk' }) :
    wpAny (model PySem.Challenge.rw_nn0009_01.row.prog w) A (call (.ref f) vs) Q E s :=
  H A s Q E rfl (Amb.mk' B F X T hA hf hk h1 h2 h3) fun v h' tk' st ⟨xs, hp, r, its, e, hi, hc⟩ => by
    subst e
    rcases hc with ⟨n, ho, hn⟩ | ⟨rfl, rfl⟩
    · exact ret r its xs [(r, listOf its.toArray n)] h' tk' (F.grownK st) (News.cons' F N st ho hn) (.inr ⟨n, .head _⟩) hi hp
    · exact ret r its xs [] h' tk' (F.grownK st) (News.stays N st) (.inl ⟨rfl, rfl⟩) hi hp
theorem callL2 {P : List Int → Prop} (H : Fn d w f vs s.heap (fun v h' => ∃ xs, P xs ∧ LOut s.heap xs v h'))
    (B : Below A₀ base outer h₀) (F : Fr h₀ L s.heap m) (X : (hd.heap_39 w.params).In h₀) (N : News h₀ L s.heap news) (T : Top p loose mean mg mb h₀) (hA : A.frames = some (env :: outer)) (hf : env.frame = some L) (hk : env.scope.kind = .function)
    (h1 : A.depth + d < recursionLimit) (h2 : A.units + 20 * d < cLine) (h3 : A.handled = none)
    (ret : ∀ a its n xs h' tk', Fr h₀ L h' m → News h₀ L h' ((a, listOf its.toArray n) :: news) → AllNe a news → IntsAre its xs → P xs → Q (.ref a) { s with heap := h', toks := tk' }) :
    wpAny (model PySem.Challenge.rw_nn0009_01.row.prog w) A (call (.ref f) vs) Q E s :=
  H A s Q E rfl (Amb.mk' B F X T hA hf hk h1 h2 h3) fun v h' tk' st ⟨xs, hp, a, its, n, e, ho, hi, hn⟩ => by
    subst e
    exact ret a its n xs h' tk' (F.grownK st) (News.cons' F N st ho hn) (allNe_new N hn) hi hp
theorem callT2 {P : List Int → List Int → Prop} (H : Fn d w f vs s.heap (fun v h' => ∃ xs ys, P xs ys ∧ TOut s.heap xs ys v h'))
    (B : Below A₀ base outer h₀) (F : Fr h₀ L s.heap m) (X : (hd.heap_39 w.params).In h₀) (N : News h₀ L s.heap news) (T : Top p loose mean mg mb h₀) (hA : A.frames = some (env :: outer)) (hf : env.frame = some L) (hk : env.scope.kind = .function)
    (h1 : A.depth + d < recursionLimit) (h2 : A.units + 20 * d < cLine) (h3 : A.handled = none)
    (ret : ∀ t a b ia ka ib kb xs ys h' tk', Fr h₀ L h' m → News h₀ L h' ((t, tupOf a b) :: (a, listOf ia.toArray ka) :: (b, listOf ib.toArray kb) :: news) → AllNe t news → AllNe a news → AllNe b news → IntsAre ia xs → IntsAre ib ys → P xs ys → Q (.ref t) { s with heap := h', toks := tk' }) :
    wpAny (model PySem.Challenge.rw_nn0009_01.row.prog w) A (call (.ref f) vs) Q E s :=
  H A s Q E rfl (Amb.mk' B F X T hA hf hk h1 h2 h3) fun v h' tk' st ⟨xs, ys, hp, t, a, b, ia, ka, ib, kb, e, ht, ha, hb, i1, i2, ft, fa, fb⟩ => by
    subst e
    exact ret t a b ia ka ib kb xs ys h' tk' (F.grownK st) (News.cons3 F N st hb fb ha fa ht ft) (allNe_new N ft) (allNe_new N fa) (allNe_new N fb) i1 i2 hp
theorem callU2 {P : List Int → Prop} {a : Addr} (H : Fn d w f vs s.heap (fun v h' => ∃ ys, P ys ∧ UOut s.heap a ys v h'))
    (B : Below A₀ base outer h₀) (F : Fr h₀ L s.heap m) (X : (hd.heap_39 w.params).In h₀) (N : News h₀ L s.heap news) (T : Top p loose mean mg mb h₀) (hA : A.frames = some (env :: outer)) (hf : env.frame = some L) (hk : env.scope.kind = .function)
    (h1 : A.depth + d < recursionLimit) (h2 : A.units + 20 * d < cLine) (h3 : A.handled = none)
    (ret : ∀ t b ib kb ys h' tk', Fr h₀ L h' m → News h₀ L h' ((t, tupOf a b) :: (b, listOf ib.toArray kb) :: news) → AllNe t news → AllNe b news → IntsAre ib ys → P ys → Q (.ref t) { s with heap := h', toks := tk' }) :
    wpAny (model PySem.Challenge.rw_nn0009_01.row.prog w) A (call (.ref f) vs) Q E s :=
  H A s Q E rfl (Amb.mk' B F X T hA hf hk h1 h2 h3) fun v h' tk' st ⟨ys, hp, t, b, ib, kb, e, ht, hb, i2, ft, fb⟩ => by
    subst e
    exact ret t b ib kb ys h' tk' (F.grownK st) (News.cons2 F N st hb fb ht ft) (allNe_new N ft) (allNe_new N fb) i2 hp
end
theorem law_m {B i : Int} (hB : 2 ≤ B) (h : 0 ≤ i ∧ i < B ^ Int.toNat 4) : 0 ≤ (if 1 > i then 1 else i) ∧ 1 ≤ (if 1 > i then 1 else i) ∧ (if 1 > i then 1 else i) < B ^ 4 ∧ (if 1 > i then 1 else i) < B ^ 300 := by
  have e : Int.toNat 4 = 4 := rfl
  rw [e] at h
  have a := pow_le_pow (B := B) (by omega) (m := 1) (n := 4) (by omega)
  have b := pow_le_pow (B := B) (by omega) (m := 4) (n := 300) (by omega)
  have e1 : B ^ 1 = B := by rw [Int.pow_succ, Int.pow_zero, Int.one_mul]
  by_cases c : 1 > i
  · rw [if_pos c]; omega
  · rw [if_neg c]; omega
theorem law_x {B i : Int} (hB : 2 ≤ B) (h : 0 ≤ i ∧ i < B ^ Int.toNat 12) : 0 ≤ i ∧ i < B ^ 12 ∧ i < B ^ 300 := by
  have e : Int.toNat 12 = 12 := rfl
  rw [e] at h
  have b := pow_le_pow (B := B) (by omega) (m := 12) (n := 300) (by omega)
  omega
theorem law_w {i : Int} (h : 0 ≤ i ∧ i < 8) : 2 ≤ 2 + i ∧ 2 + i ≤ 9 := by omega
theorem row_ne {B x : Int} {xs : List Int} (hB : 0 < B) (R : Row B xs x) (h : 0 < x) : xs ≠ [] := fun e => by
  have := (R.nil_iff hB).mp e
  omega
theorem law_exp {W : Int} {n : Nat} (hW : 2 ≤ W ∧ W ≤ 9) (h : n ≤ 4) : 0 ≤ 2 * W * (n : Int) ∧ 2 * W * (n : Int) ≤ 72 := by
  have a : 0 ≤ 2 * W * (n : Int) := Int.mul_nonneg (by omega) (by omega)
  have b : 2 * W * (n : Int) ≤ 18 * n := Int.mul_le_mul_of_nonneg_right (by omega) (by omega)
  omega
theorem law_pow {W : Int} {n : Nat} (hW : 2 ≤ W ∧ W ≤ 9) : (2 : Int) ^ (2 * W * (n : Int)).toNat = bs W ^ (2 * n) := by
  show _ = (2 ^ W.toNat) ^ (2 * n)
  rw [← Int.pow_mul]
  congr 1
  have : ((W.toNat * (2 * n) : Nat) : Int) = 2 * W * (n : Int) := by
    rw [Int.natCast_mul, Int.toNat_of_nonneg (by omega), Int.natCast_mul]
    rw [Int.mul_comm 2 W, Int.mul_assoc]; rfl
  omega
theorem law_q {W m : Int} {n : Nat} (hW : 2 ≤ W ∧ W ≤ 9) (h : n ≤ 4) (hm : 0 < m) : 0 ≤ ((2 : Int) ^ (2 * W * (n : Int)).toNat).fdiv m ∧ ((2 : Int) ^ (2 * W * (n : Int)).toNat).fdiv m < bs W ^ 300 ∧ ((2 : Int) ^ (2 * W * (n : Int)).toNat).fdiv m = bs W ^ (2 * n) / m := by
  rw [law_pow hW, Int.fdiv_eq_ediv_of_nonneg _ (by omega)]
  have p := pow_pos (bs_pos W) (2 * n)
  have q : bs W ^ (2 * n) < bs W ^ 300 := by
    have a := pow_le_pow (bs_pos W) (m := 2 * n + 1) (n := 300) (by omega)
    rw [Int.pow_succ] at a
    have b : bs W ^ (2 * n) * 2 ≤ bs W ^ (2 * n) * bs W := Int.mul_le_mul_of_nonneg_left (bs_two hW.1) (by omega)
    omega
  exact ⟨Int.ediv_nonneg (by omega) (by omega), Int.lt_of_le_of_lt (Int.ediv_le_self _ (by omega)) q, rfl⟩
theorem ints2_shaped (ns ms : List Int) : SeqAt.shaped (.tuple [.list (ns.map PyData.int), .list (ms.map PyData.int)]) = true := by
  simp [SeqAt.shaped, PyData.canLay0, PyData.canLayAll0, PyData.depth, PyData.depthAll, ke_canLayAll0, ke_depthAll]
theorem ints2_same (ns ms : List Int) : PySem.Spec.same (.tuple [.list (ns.map PyData.int), .list (ms.map PyData.int)]) (.tuple [.list (ns.map PyData.int), .list (ms.map PyData.int)]) = true := by
  simp [PySem.Spec.same, PySem.Spec.sameAll, ke_sameAll]
theorem ints2_has (ns ms : List Int) : (Shape.tuples (.list .int)).has (.tuple [.list (ns.map PyData.int), .list (ms.map PyData.int)]) = true := tuples_has fun x hx => by
  rcases List.mem_cons.mp hx with rfl | hx
  · exact list_map_has fun _ => rfl
  · rw [List.mem_singleton.mp hx]
    exact list_map_has fun _ => rfl
theorem reads_ints2 {h : Heap} {t a b : Addr} {xa xb : List Value} {ns ms : List Int} (ht : IsTup h t #[.ref a, .ref b]) (ha : h.IsList a xa.toArray) (hb : h.IsList b xb.toArray) (ia : IntsAre xa ns) (ib : IntsAre xb ms) :
    ∃ as, Reads h (.ref t) (.tuple [.list (ns.map PyData.int), .list (ms.map PyData.int)]) as := by
  obtain ⟨o, ho, hc, n, hd⟩ := ht
  exact ⟨_, .tuple ho hc hd (.cons (reads_newData ha (ke_carried ia)) (.cons (reads_newData hb (ke_carried ib)) .nil))⟩
section
variable {prog : Program} {w : World} {A : Around} {E : Value → Shared → Prop} {s : Shared} {Q : Value → Shared → Prop}
theorem ne_tup {t u a b c d : Addr} {xa xb xc xd : List Value} {na nb nc nd : List Int} (ht : IsTup s.heap t #[.ref a, .ref b]) (hu : IsTup s.heap u #[.ref c, .ref d])
    (ha : s.heap.IsList a xa.toArray) (hb : s.heap.IsList b xb.toArray) (hc : s.heap.IsList c xc.toArray) (hd : s.heap.IsList d xd.toArray) (ia : IntsAre xa na) (ib : IntsAre xb nb) (ic : IntsAre xc nc) (id : IntsAre xd nd)
    (e1 : na = nc) (e2 : nb = nd) (hun : A.units + 64 < cLine) (h : Q (.bool false) s) : wpAny (model prog w) A (compareOp .NotEq (.ref t) (.ref u)) Q E s := by
  subst e1 e2
  obtain ⟨as, ra⟩ := reads_ints2 ht ha hb ia ib
  obtain ⟨bs, rb⟩ := reads_ints2 hu hc hd ic id
  exact ne_dataH_same ra rb (ints2_shaped _ _) (ints2_shaped _ _) hun (SeqAt.noMix_of_shape (.tuples (.list .int)) rfl _ _ (ints2_has _ _) (ints2_has _ _)) (by rw [ints2_same]; exact h)
theorem ne_ints_same {a b : Addr} {xs ys : List Value} {ns ms : List Int} (ha : s.heap.IsList a xs.toArray) (hb : s.heap.IsList b ys.toArray) (hi : IntsAre xs ns) (hj : IntsAre ys ms) (hn : ns = ms) (hu : A.units + 64 < cLine) (h : Q (.bool false) s) :
    wpAny (model prog w) A (compareOp .NotEq (.ref a) (.ref b)) Q E s := ke_ne_ints ha hb hi hj hu (by rw [decide_eq_true hn]; exact h)
theorem eq_ints_same {a b : Addr} {xs ys : List Value} {ns ms : List Int} (ha : s.heap.IsList a xs.toArray) (hb : s.heap.IsList b ys.toArray) (hi : IntsAre xs ns) (hj : IntsAre ys ms) (hn : ns = ms) (hu : A.units + 64 < cLine) (h : Q (.bool true) s) :
    wpAny (model prog w) A (compareOp .Eq (.ref a) (.ref b)) Q E s := ke_eq_ints ha hb hi hj hu (by rw [decide_eq_true hn]; exact h)
end
theorem law_dm {x m c : Int} (hx : 0 ≤ x) (hc : x < c) (hm : 0 < m) : 0 ≤ x.fdiv m ∧ x.fdiv m < c ∧ x.fdiv m = x / m ∧ 0 ≤ x.fmod m ∧ x.fmod m < c ∧ x.fmod m = x % m := by
  rw [Int.fdiv_eq_ediv_of_nonneg _ (by omega), Int.fmod_eq_emod_of_nonneg _ (by omega)]
  have a := Int.ediv_le_self m hx
  have b := emod_le' hx hm
  exact ⟨Int.ediv_nonneg hx (by omega), by omega, rfl, Int.emod_nonneg _ (by omega), by omega, rfl⟩
theorem law_small {W x : Int} {n : Nat} (hW : 2 ≤ W ∧ W ≤ 9) (hx : 0 ≤ x) (hc : x < bs W ^ 300) : 0 ≤ x.fmod (2 ^ (2 * W * (n : Int)).toNat) ∧ x.fmod (2 ^ (2 * W * (n : Int)).toNat) < bs W ^ 300 ∧ x.fmod (2 ^ (2 * W * (n : Int)).toNat) < bs W ^ (2 * n) := by
  rw [law_pow hW]
  have p := pow_pos (bs_pos W) (2 * n)
  rw [Int.fmod_eq_emod_of_nonneg _ (by omega)]
  have b := emod_le' hx p
  exact ⟨Int.emod_nonneg _ (by omega), by omega, Int.emod_lt_of_pos _ p⟩
theorem law_small' {W x : Int} {n : Nat} (_ : n ≤ 4) (hW : 2 ≤ W ∧ W ≤ 9) (hx : 0 ≤ x) (hc : x < bs W ^ 300) : 0 ≤ x.fmod (2 ^ (2 * W * (n : Int)).toNat) ∧ x.fmod (2 ^ (2 * W * (n : Int)).toNat) < bs W ^ 300 ∧ x.fmod (2 ^ (2 * W * (n : Int)).toNat) < bs W ^ (2 * n) := law_small hW hx hc
theorem AllNe.l {d a : Addr} {o : Obj} : ∀ {l : List (Addr × Obj)}, AllNe d l → (a, o) ∈ l → a ≠ d
  | [], _, h => nomatch h
  | p :: r, h, hm => by
    rcases List.mem_cons.mp hm with e | hm
    · rw [show a = p.1 from congrArg Prod.fst e]; exact h.1
    · exact AllNe.l h.2 hm
theorem AllNe.r {d a : Addr} {o : Obj} {l : List (Addr × Obj)} (h : AllNe d l) (hm : (a, o) ∈ l) : d ≠ a := (h.l hm).symm

theorem enter2 {d : Nat} {w : World} {f : Addr} {vs : List Value} {g : Heap} {Out : Value → Heap → Prop} {name qual : Str} {params : Arguments} {body : List Stmt} {scope : Scope} {dV kV doc pm cdv ct oc : Value} {an od : Option Addr} {osl : Array (Option Value)} {binds : List (Str × Value)}
    (ho : (hd.heap_39 w.params).lookup f = some ⟨oc, od, .func (fnOf name qual params body scope dV kV doc pm an cdv ct), osl⟩) (hcd : codeIn (hd.heap_39 w.params) cdv qual = true)
    (hbind : ∀ s, BindsTo s (fnOf name qual params body scope dV kV doc pm an cdv ct) ⟨vs, []⟩ binds) (hloc : ∀ y ∈ binds, scope.names.lookup y.1 = some .local)
    (hcell : ∀ x ∈ scope.names, x.2 ≠ .cell) (hco : scope.isCoroutine = false) (hgen : scope.isGenerator = false) (hk : scope.kind = .function)
    (h : ∀ (dp un : Nat) (gd : Option (List Code)) (outer : List Env) (base : Heap) (A₀ : Around) (p : Program) (loose : List Str) (mean : ExcName → Option Value) (mg mb : Str → Option Value) (L' : Addr) (h₁ : Heap) (gn : Array GenState) (dr : Drawn) (tk : Nat) (os : OsState) (Q' : Flow → Shared → Prop),
      dp + d < recursionLimit → un + 20 * d < cLine → Below A₀ base outer g → (hd.heap_39 w.params).In g → Top p loose mean mg mb g → Fr g L' h₁ (fun y => binds.reverse.lookup y) → News g L' h₁ [] →
      (∀ v h' tk', g.StaysIn h' → Out v h' → Q' (.ret v) ⟨h', gn, dr, tk', os⟩) →
      wpAny (model PySem.Challenge.rw_nn0009_01.row.prog w) (ktrTop dp un gd qual scope L' f cdv [] outer) (execs body (envOf qual scope L' f cdv)) Q' (fun _ _ => False) ⟨h₁, gn, dr, tk, os⟩) :
    Fn (d + 1) w f vs g Out := enter ho hcd hbind hloc hcell hco hgen hk fun dp un gd outer base A₀ p loose mean mg mb L' h₁ s Q' a b c d e f g r => h dp un gd outer base A₀ p loose mean mg mb L' h₁ s.gens s.drawn (s.toks + binds.length) s.os Q' a b c d e f g r
theorem use_abs {α : Type} {Q Q' : α → Shared → Prop} {v : α} {s : Shared} (h : ∀ v s, Q v s → Q' v s) (g : Q v s) : Q' v s := h v s g
theorem wp_abs {α : Type} {M : Model} {A : Around} {t : Sem α} {E : Value → Shared → Prop} {s : Shared} {Q : α → Shared → Prop} (h : ∀ Q' : α → Shared → Prop, (∀ v s', Q v s' → Q' v s') → wpAny M A t Q' E s) : wpAny M A t Q E s := h Q fun _ _ h => h
theorem wp_absE {α : Type} {M : Model} {A : Around} {t : Sem α} {E : Value → Shared → Prop} {s : Shared} {Q : α → Shared → Prop} (h : ∀ Q' : α → Shared → Prop, (∀ v s', Q v s' → Q' v s') → wpAny M A t Q' (fun _ _ => False) s) : wpAny M A t Q E s :=
  wpAny_mono (h Q fun _ _ h => h) (fun _ _ h => h) fun _ _ h => h.elim
theorem room_of {dp d k lim : Nat} (h : dp + d < lim) (e : Nat.ble k d = true) : dp + k < lim := Nat.lt_of_le_of_lt (Nat.add_le_add_left (Nat.le_of_ble_eq_true e) dp) h
theorem unit_of {un d k lim : Nat} (h : un + 20 * d < lim) (e : Nat.ble k d = true) : un + 20 * k < lim := Nat.lt_of_le_of_lt (Nat.add_le_add_left (Nat.mul_le_mul_left 20 (Nat.le_of_ble_eq_true e)) un) h
theorem small_len {a b c : Nat} (h : a ≤ b) (e : Nat.ble b c = true) : a ≤ c := Nat.le_trans h (Nat.le_of_ble_eq_true e)
theorem small_len' {a b c : Nat} (h : a ≤ b) (e : Nat.ble (b + 1) c = true) : a < c := Nat.lt_of_lt_of_le (Nat.lt_succ_of_le h) (Nat.le_of_ble_eq_true e)
theorem enterB2 {d : Nat} {w : World} {f b : Addr} {bo : Obj} {vs : List Value} {g : Heap} {Out : Value → Heap → Prop} {name qual : Str} {params : Arguments} {body : List Stmt} {scope : Scope} {dV kV doc pm cdv ct oc : Value} {an od : Option Addr} {osl : Array (Option Value)} {binds : List (Str × Value)}
    (hbo : g.get? b = some bo)
    (ho : (hd.heap_39 w.params).lookup f = some ⟨oc, od, .func (fnOf name qual params body scope dV kV doc pm an cdv ct), osl⟩) (hcd : codeIn (hd.heap_39 w.params) cdv qual = true)
    (hbind : ∀ s, BindsTo s (fnOf name qual params body scope dV kV doc pm an cdv ct) ⟨vs, []⟩ binds) (hloc : ∀ y ∈ binds, scope.names.lookup y.1 = some .local)
    (hcell : ∀ x ∈ scope.names, x.2 ≠ .cell) (hco : scope.isCoroutine = false) (hgen : scope.isGenerator = false) (hk : scope.kind = .function)
    (h : ∀ (dp un : Nat) (gd : Option (List Code)) (outer : List Env) (base : Heap) (A₀ : Around) (p : Program) (loose : List Str) (mean : ExcName → Option Value) (mg mb : Str → Option Value) (L' : Addr) (h₁ : Heap) (gn : Array GenState) (dr : Drawn) (tk : Nat) (os : OsState) (Q' : Flow → Shared → Prop),
      dp + d < recursionLimit → un + 20 * d < cLine → Below A₀ base outer (hide g b) → (hd.heap_39 w.params).In (hide g b) → Top p loose mean mg mb (hide g b) → Fr (hide g b) L' h₁ (fun y => binds.reverse.lookup y) → News (hide g b) L' h₁ [(b, bo)] →
      (∀ v h' tk', (hide g b).StaysIn h' → Out v h' → Q' (.ret v) ⟨h', gn, dr, tk', os⟩) →
      wpAny (model PySem.Challenge.rw_nn0009_01.row.prog w) (ktrTop dp un gd qual scope L' f cdv [] outer) (execs body (envOf qual scope L' f cdv)) Q' (fun _ _ => False) ⟨h₁, gn, dr, tk, os⟩) :
    FnB (d + 1) w f vs g b Out := enterB hbo ho hcd hbind hloc hcell hco hgen hk fun dp un gd outer base A₀ p loose mean mg mb L' h₁ s Q' a b c d e f g r => h dp un gd outer base A₀ p loose mean mg mb L' h₁ s.gens s.drawn (s.toks + binds.length) s.os Q' a b c d e f g r

/-- some places of a list -/
def pickL {α : Type} : List Nat → List α → List α
  | [], _ => []
  | i :: is, l => (l.drop i).take 1 ++ pickL is l
theorem pickL_mem {α : Type} {p : α} {l : List α} : ∀ {is : List Nat}, p ∈ pickL is l → p ∈ l
  | [], h => nomatch h
  | _ :: _, h => by
    rcases List.mem_append.mp h with h | h
    · exact List.mem_of_mem_drop (List.mem_of_mem_take h)
    · exact pickL_mem h
theorem News.pick {h₀ h : Heap} {L : Addr} {news : List (Addr × Obj)} (is : List Nat) (N : News h₀ L h news) : News h₀ L h (pickL is news) := fun p hp => N p (pickL_mem hp)
theorem News.open6 {P : Prop} {h₀ h : Heap} {L a b c d e f : Addr} {oa ob oc od oe of : Obj} {rest : List (Addr × Obj)}
    (N : News h₀ L h ((a, oa) :: (b, ob) :: (c, oc) :: (d, od) :: (e, oe) :: (f, of) :: rest)) (k : ∀ a' b' c' d' e' f', a' = a → b' = b → c' = c → d' = d → e' = e → f' = f → P) : P := k _ _ _ _ _ _ rfl rfl rfl rfl rfl rfl
theorem News.neO {h₀ h : Heap} {L a b : Addr} {o o' : Obj} {news : List (Addr × Obj)} (N : News h₀ L h news) (ha : (a, o) ∈ news) (hb : (b, o') ∈ news) (hne : o.data = o'.data → False) : @Ne Nat a b := by
  intro e
  have e' : a = b := e
  subst e'
  have h1 := (N _ ha).1
  rw [(N _ hb).1] at h1
  cases h1
  exact hne rfl

theorem frame_mem {env : Env} {L b : Addr} {outer : List Env} (hf : env.frame = some L) (hm : b ∈ (env :: outer).filterMap (·.frame)) : b = L ∨ b ∈ outer.filterMap (·.frame) := by
  obtain ⟨e, he, h⟩ := List.mem_filterMap.mp hm
  rcases List.mem_cons.mp he with rfl | he
  · exact .inl (Option.some.inj (h.symm.trans hf))
  · exact .inr (List.mem_filterMap.mpr ⟨e, he, h⟩)
section
variable {prog : Program} {w : World} {A₀ A : Around} {s : Shared} {base h₀ g₀ : Heap} {outer : List Env} {env : Env} {L : Addr} {m : Str → Option Value} {news : List (Addr × Obj)} {K : Frag} {p : Program} {loose : List Str} {mean : ExcName → Option Value} {mg mb : Str → Option Value}
  {R : Result → Shared → Prop} {name qual : Str} {params : Arguments} {body : List Stmt} {scope : Scope} {dV kV doc pm cdv ct oc : Value} {an od : Option Addr} {osl : Array (Option Value)} {f : Addr} {args : Args} {binds : List (Str × Value)}
/-- what a caller with any kind of frame hands to its callee -/
structure Ready (A₀ A : Around) (base h₀ g : Heap) (env : Env) (outer : List Env) (L : Addr) (m : Str → Option Value) (h : Heap) : Prop where
  fr : Fr h₀ L g m
  below : Below A base (env :: outer) g
  stays : h₀.StaysIn g
  some_ : ∃ o es n, g.get? L = some o ∧ o.data = .dict es n
  back : ∀ h' : Heap, g.StaysIn h' → h'.Ns L m
  backS : ∀ (h' : Heap) (oL : Obj) (sl : Array (Option Value)), g.get? L = some oL → h'.get? L = some { oL with slots := sl } → h'.Ns L m
theorem ready (B : Below A₀ base outer h₀) (F : Fr h₀ L s.heap m) (N : News h₀ L s.heap news) (hA : A.frames = some (env :: outer)) (hf : env.frame = some L) (hke : env.scope.kind = .function) :
    Ready A₀ A base h₀ (hideAll s.heap (news.map (·.1))) env outer L m s.heap := by
  obtain ⟨FG, BG, st, _⟩ := groundX (R := fun _ _ => True) B F N hA hf hke
  obtain ⟨oL, es, ep, hL, hLd, hLk, hLf⟩ := FG.ns
  exact ⟨FG, BG, st, ⟨oL, es, ep, hL, hLd⟩, fun h' e => ⟨oL, es, ep, e _ _ hL, hLd, hLk, hLf⟩, fun h' o sl e e' => by
    rw [hL] at e
    cases e
    exact ⟨_, es, ep, e', hLd, hLk, hLf⟩⟩
theorem ready_none {g : Heap} (Y : Ready A₀ A base h₀ g env outer L m s.heap) : h₀.get? L = none := kts_self Y.fr
/-- the end of a callee whose frames have turned, for a caller at the bottom -/
theorem leave0 {g h' : Heap} {v : Value} {s' : Shared} (Y : Ready A₀ A base h₀ g env [] L m s.heap) (hf : env.frame = some L) (hl : LeaveS0 ([env].filterMap (·.frame)) h₀ L m g R v s') : R (.ok (.ret v)) s' := by
  obtain ⟨g', L', m', news', T', F', N', k⟩ := hl
  have nL := kts_self Y.fr
  obtain ⟨oL, es, n, hLg, _⟩ := Y.some_
  obtain ⟨sl, hs⟩ := T'.up hLg
  refine k ⟨Y.backS _ oL sl hLg (F'.keep _ _ hs), fun b o e => F'.keep b o (T'.other b o (Y.stays b o e) fun q => ?_), Y.fr.above⟩ fun p hp => ⟨(N' p hp).1, fun q => ?_, ?_⟩
  · rcases frame_mem hf q with z | z
    · rw [z, nL] at e
      cases e
    · cases z
  · have := (N' p hp).2.2
    rw [q, hs] at this
    cases this
  · cases q : h₀.get? p.1 with
    | none => rfl
    | some o =>
      obtain ⟨sl', hs'⟩ := T'.up (Y.stays _ _ q)
      have := (N' p hp).2.2
      rw [hs'] at this
      cases this
theorem ready_dicts {g : Heap} (Y : Ready A₀ A base h₀ g env outer L m s.heap) (hf : env.frame = some L) (D : KtsDicts (outer.filterMap (·.frame)) h₀) : KtsDicts ((env :: outer).filterMap (·.frame)) g := fun b hb => by
  rcases frame_mem hf hb with rfl | hb
  · exact Y.some_
  · obtain ⟨o, es, n, ho, hd⟩ := D b hb
    exact ⟨o, es, n, Y.stays _ _ ho, hd⟩
theorem code0 (B : Below A₀ base [] h₀) (F : Fr h₀ L s.heap m) (X₀ : K.In h₀) (N : News h₀ L s.heap news) (T : Top p loose mean mg mb h₀) (hA : A.frames = some [env]) (hf : env.frame = some L) (hke : env.scope.kind = .function)
    (ho : K.lookup f = some ⟨oc, od, .func (fnOf name qual params body scope dV kV doc pm an cdv ct), osl⟩) (hcd : codeIn K cdv qual = true) (hroom : A.depth < recursionLimit)
    (hbind : BindsTo s (fnOf name qual params body scope dV kV doc pm an cdv ct) args binds) (hloc : ∀ y ∈ binds, scope.names.lookup y.1 = some .local)
    (h : ∀ g L' h₁, Fr h₀ L g m → Fr g L' h₁ (fun y => binds.reverse.lookup y) → News g L' h₁ news → Below A base [env] g → K.In g → Top p loose mean mg mb g → KtsDicts ([env].filterMap (·.frame)) g →
      wpAny (model prog w) (A.deeper (envOf qual scope L' f cdv)) (execs body (envOf qual scope L' f cdv))
        (fun fl s' => LeaveS0 ([env].filterMap (·.frame)) h₀ L m g R (match fl with | .ret v => v | _ => .none) s')
        (fun e s' => wpAny (model prog w) (A.deeper (envOf qual scope L' f cdv)) (leaving (envOf qual scope L' f cdv) e) (fun _ s'' => R (.error e) s'') (fun e' s'' => R (.error e') s'') s')
        { s with heap := h₁, toks := s.toks + binds.length })
    (hco : scope.isCoroutine = false) (hgen : scope.isGenerator = false) (hk : scope.kind = .function)
    (hcell : ∀ x ∈ scope.names, x.2 ≠ .cell) : codeAny (model prog w) A (.call (.ref f) args) R s := by
  have X := X₀.keeps F.keep
  have Y := ready B F N hA hf hke
  refine codeAny_call_def (fd := fnOf name qual params body scope dV kV doc pm an cdv ct) (body := body) (binds := binds) hroom (X _ _ ho) rfl (T.nolimit.keeps F.keep) (codeRec_of X hcd) rfl hbind hcell hloc (fun h₁ hns hk₁ => ?_) hco hgen hk
  exact wpAny_mono (h _ s.heap.objs.size h₁ Y.fr ⟨hns, fun b o e => hk₁ b o (of_hideAll _ e), Nat.le_of_eq (hideAll_size _ _)⟩
    (fun p hp => ⟨hk₁ _ _ (N p hp).1, Nat.ne_of_lt (Heap.lt_size (N p hp).1), hideAll_none _ (List.mem_map_of_mem hp)⟩) Y.below (X₀.keeps Y.stays) (T.keeps Y.stays) (ready_dicts Y hf ktsDicts_nil)) (fun fl s' hl => leave0 (h' := h₁) Y hf hl) fun _ _ y => y
theorem code0C (B : Below A₀ base [] h₀) (F : Fr h₀ L s.heap m) (X₀ : K.In h₀) (N : News h₀ L s.heap news) (T : Top p loose mean mg mb h₀) (hA : A.frames = some [env]) (hf : env.frame = some L) (hke : env.scope.kind = .function)
    (ho : K.lookup f = some ⟨oc, od, .func (fnOf name qual params body scope dV kV doc pm an cdv ct), osl⟩) (hcd : codeIn K cdv qual = true) (hroom : A.depth < recursionLimit)
    (hbind : BindsTo s (fnOf name qual params body scope dV kV doc pm an cdv ct) args binds) (hkind : (binds.all fun y => scope.names.lookup y.1 == some .local || scope.names.lookup y.1 == some .cell) = true)
    (hnd : ((cellsFrom 0 scope.names []).map (·.1)).Nodup)
    (h : ∀ g L' h₁ tk cells, Fr h₀ L g m → Fr g L' h₁ (bindL (envOfC qual scope L' f cdv).kindOf binds fun _ => none) → News g L' h₁ (cells ++ news) →
      CellsAre (bindC (envOfC qual scope L' f cdv).kindOf binds fun _ => none) (cellsFrom (L' + 1) scope.names []) cells → Below A base [env] g → K.In g → Top p loose mean mg mb g → KtsDicts ([env].filterMap (·.frame)) g → (∀ p ∈ news, p.1 < L') →
      wpAny (model prog w) (A.deeper (envOfC qual scope L' f cdv)) (execs body (envOfC qual scope L' f cdv))
        (fun fl s' => LeaveS0 ([env].filterMap (·.frame)) h₀ L m g R (match fl with | .ret v => v | _ => .none) s')
        (fun e s' => wpAny (model prog w) (A.deeper (envOfC qual scope L' f cdv)) (leaving (envOfC qual scope L' f cdv) e) (fun _ s'' => R (.error e) s'') (fun e' s'' => R (.error e') s'') s')
        { s with heap := h₁, toks := tk })
    (hco : scope.isCoroutine = false) (hgen : scope.isGenerator = false) (hk : scope.kind = .function) : codeAny (model prog w) A (.call (.ref f) args) R s := by
  have Y := ready B F N hA hf hke
  have X := X₀.keeps F.keep
  refine codeAny_call_function hroom (X _ _ ho) rfl hco hgen rfl (codeRec_of X hcd) (hbind _ _ _ _ ?_)
  refine wpAny_newFunctionEnv_cells hk (kindsX hkind _) fun env' he s' x => ?_
  subst he
  refine ⟨(T.nolimit.keeps F.keep).keeps x.toInCall.keep, codeAny_func ?_⟩
  obtain ⟨h₁, tk, rfl, _⟩ := x.done
  have hk₁ := x.toInCall.keep
  obtain ⟨cells, NC, Z⟩ := Cl.news (h₀ := s.heap) (Nat.le_refl _) fun n c hm => ⟨x.cell n c (lookup_of_mem_nodup (cellsFrom_names scope.names 0 (s.heap.objs.size + 1) [] [] rfl ▸ hnd) hm), x.above n c hm⟩
  refine wpAny_mono (h _ s.heap.objs.size h₁ tk cells Y.fr ⟨x.toInCall.ns, fun b o e => hk₁ b o (of_hideAll _ e), Nat.le_of_eq (hideAll_size _ _)⟩ (fun p hp => ?_) Z Y.below (X₀.keeps Y.stays) (T.keeps Y.stays) (ready_dicts Y hf ktsDicts_nil) (fun p hp => Heap.lt_size (N p hp).1)) (fun fl s' hl => leave0 (h' := h₁) Y hf hl) fun _ _ y => y
  rcases List.mem_append.mp hp with hp | hp
  · refine ⟨(NC p hp).1, (NC p hp).2.1, ?_⟩
    cases q : (hideAll s.heap (news.map (·.1))).get? p.1 with
    | none => rfl
    | some o =>
      have := of_hideAll _ q
      rw [(NC p hp).2.2] at this
      cases this
  · exact ⟨hk₁ _ _ (N p hp).1, Nat.ne_of_lt (Heap.lt_size (N p hp).1), hideAll_none _ (List.mem_map_of_mem hp)⟩
theorem leaveS' {g : Heap} {v : Value} {s' : Shared} (B : Below A₀ base outer h₀) (XB : K.In base) (TB : Top p loose mean mg mb base) (D : KtsDicts (outer.filterMap (·.frame)) h₀) (T0 : KtsTurn (outer.filterMap (·.frame)) g₀ h₀)
    (Y : Ready A₀ A base h₀ g env outer L m s.heap) (hf : env.frame = some L) (hl : LeaveS ((env :: outer).filterMap (·.frame)) A₀ base outer K p loose mean mg mb g₀ h₀ L m g R v s') : R (.ok (.ret v)) s' := by
  have nL := kts_self Y.fr
  obtain ⟨oL, es, n, hLg, _⟩ := Y.some_
  rcases hl with ⟨L', m', news', F', N', k⟩ | ⟨g', L', m', news', T', F', N', k⟩
  · refine k ⟨Y.back _ F'.keep, fun b o e => F'.keep b o (Y.stays b o e), Y.fr.above⟩ fun p hp => ⟨(N' p hp).1, fun q => ?_, ?_⟩
    · have := (N' p hp).2.2
      rw [q, hLg] at this
      cases this
    · cases q : h₀.get? p.1 with
      | none => rfl
      | some o =>
        have := (N' p hp).2.2
        rw [Y.stays _ _ q] at this
        cases this
  obtain ⟨sl, hs⟩ := T'.up hLg
  obtain ⟨T₁, S₁⟩ := kts_turn_at (h := s'.heap) (fs := outer.filterMap (·.frame)) (g := h₀)
    (fun b hb => by
      obtain ⟨_, o, ho', _⟩ := B.frames.mem hb
      exact ⟨o, ho'⟩)
    (fun b o e nmem => F'.keep b o (T'.other b o (Y.stays b o e) (fun q => by
      rcases frame_mem hf q with z | z
      · rw [z, nL] at e
        cases e
      · exact nmem z)))
    (fun b o e hm => by
      obtain ⟨sl', hs'⟩ := T'.up (Y.stays b o e)
      exact ⟨sl', F'.keep _ _ hs'⟩)
  have B₃ : Below A₀ base outer (ktsHeap s'.heap (outer.filterMap (·.frame)) h₀) := ⟨B.stack, fun b o e => T₁.other b o (B.stays b o e) (fun hm => by
    rw [(B.frames.mem hm).1] at e
    cases e), B.frames.of_keeps fun b o e _ => by
    obtain ⟨sl', hs'⟩ := T₁.up e
    exact ⟨_, hs', rfl⟩⟩
  refine k _ (T0.trans T₁) ⟨Y.backS _ oL sl hLg (F'.keep _ _ hs), S₁, by rw [T₁.size]; exact Y.fr.above⟩ (fun p hp => ⟨(N' p hp).1, fun q => ?_, ?_⟩) B₃ (XB.keeps B₃.stays) (TB.keeps B₃.stays) (D.turn T₁)
  · have := (N' p hp).2.2
    rw [q, hs] at this
    cases this
  · refine T₁.none_ _ ?_
    cases q : h₀.get? p.1 with
    | none => rfl
    | some o =>
      obtain ⟨sl', hs'⟩ := T'.up (Y.stays _ _ q)
      have := (N' p hp).2.2
      rw [hs'] at this
      cases this
theorem codeS (B : Below A₀ base outer h₀) (F : Fr h₀ L s.heap m) (X₀ : K.In h₀) (N : News h₀ L s.heap news) (T : Top p loose mean mg mb h₀) (XB : K.In base) (TB : Top p loose mean mg mb base) (D : KtsDicts (outer.filterMap (·.frame)) h₀)
    (T0 : KtsTurn (outer.filterMap (·.frame)) g₀ h₀) (hA : A.frames = some (env :: outer)) (hf : env.frame = some L) (hke : env.scope.kind = .function)
    (ho : K.lookup f = some ⟨oc, od, .func (fnOf name qual params body scope dV kV doc pm an cdv ct), osl⟩) (hcd : codeIn K cdv qual = true) (hroom : A.depth < recursionLimit)
    (hbind : BindsTo s (fnOf name qual params body scope dV kV doc pm an cdv ct) args binds) (hloc : ∀ y ∈ binds, scope.names.lookup y.1 = some .local)
    (h : ∀ g L' h₁, Fr h₀ L g m → Fr g L' h₁ (fun y => binds.reverse.lookup y) → News g L' h₁ news → Below A base (env :: outer) g → K.In g → Top p loose mean mg mb g → KtsDicts ((env :: outer).filterMap (·.frame)) g →
      wpAny (model prog w) (A.deeper (envOf qual scope L' f cdv)) (execs body (envOf qual scope L' f cdv))
        (fun fl s' => LeaveS ((env :: outer).filterMap (·.frame)) A₀ base outer K p loose mean mg mb g₀ h₀ L m g R (match fl with | .ret v => v | _ => .none) s')
        (fun e s' => wpAny (model prog w) (A.deeper (envOf qual scope L' f cdv)) (leaving (envOf qual scope L' f cdv) e) (fun _ s'' => R (.error e) s'') (fun e' s'' => R (.error e') s'') s')
        { s with heap := h₁, toks := s.toks + binds.length })
    (hco : scope.isCoroutine = false) (hgen : scope.isGenerator = false) (hk : scope.kind = .function)
    (hcell : ∀ x ∈ scope.names, x.2 ≠ .cell) : codeAny (model prog w) A (.call (.ref f) args) R s := by
  have X := X₀.keeps F.keep
  have Y := ready B F N hA hf hke
  refine codeAny_call_def (fd := fnOf name qual params body scope dV kV doc pm an cdv ct) (body := body) (binds := binds) hroom (X _ _ ho) rfl (T.nolimit.keeps F.keep) (codeRec_of X hcd) rfl hbind hcell hloc (fun h₁ hns hk₁ => ?_) hco hgen hk
  exact wpAny_mono (h _ s.heap.objs.size h₁ Y.fr ⟨hns, fun b o e => hk₁ b o (of_hideAll _ e), Nat.le_of_eq (hideAll_size _ _)⟩
    (fun p hp => ⟨hk₁ _ _ (N p hp).1, Nat.ne_of_lt (Heap.lt_size (N p hp).1), hideAll_none _ (List.mem_map_of_mem hp)⟩) Y.below (X₀.keeps Y.stays) (T.keeps Y.stays) (ready_dicts Y hf D)) (fun fl s' hl => leaveS' B XB TB D T0 Y hf hl) fun _ _ y => y
end
section
variable {M : Model} {A : Around} {E : Value → Shared → Prop} {s' : Shared} {base g g₂ : Heap} {outer : List Env} {L e t : Addr} {m : Str → Option Value} {env : Env} {Q : Unit → Shared → Prop} {news : List (Addr × Obj)}
theorem leaveLam {cls : Value} {vs : List Value} (K : Below A base outer g) (F : Fr g L g₂ m) (R : RaisedS base g₂ (env :: outer) e cls t vs news s'.heap) (hsm : g₂.UpToSlots s'.heap)
    (hQ : ∀ h', RaisedS base g outer e cls t vs news h' → g.UpToSlots h' → Q () { s' with heap := h' }) (hf : env.frame = some L := by rfl) :
    wpAny M (A.deeper env) (leaving env (.ref e)) Q E s' := by
  obtain ⟨⟨B, hB, hBG, hl, hfl, hnew⟩, htup⟩ := R
  exact wpAny_leaves_onW (Around.frames_deeper K.stack) hf hfl fun h' x1 x2 =>
    hQ h' ⟨⟨B, hB, fun b o q nm => hBG b o (F.keep b o q) (fun hm => by
      rcases frame_mem hf hm with z | z
      · rw [z, kts_self F] at q
        cases q
      · exact nm z), fun q hq => ⟨(hl q hq).1, kts_none F.keep (hl q hq).2.1, (hl q hq).2.2⟩, x1, hnew⟩, htup.of_slots x2⟩
      ((Heap.UpToSlots.of_keeps F.keep).trans (hsm.trans x2))
end
section
variable {prog : Program} {w : World} {A₀ : Around} {E : Value → Shared → Prop} {s' : Shared} {base g g₀ G : Heap} {outer : List Env} {L a e t C : Addr} {m : Str → Option Value} {name : Str} {scope : Scope} {cd : Value}
  {vs : List Value} {b₀ : Stmt} {suite : List Stmt} {pos np : Pos} {rest : List ExceptHandler} {Q : Flow → Shared → Prop} {news : List (Addr × Obj)} {KF : Frag}
  {p : Program} {loose : List Str} {mean : ExcName → Option Value} {mg mb : Str → Option Value} {x : Str}
/-- caught by a class that a local name holds -/
theorem caughtLoc (R : RaisedS base G (envOf name scope L a cd :: outer) e (.ref C) t vs news s'.heap) (F : Fr g L G m) (K : Below A₀ base outer g) (hsm : G.UpToSlots s'.heap) (XB : KF.In base) (TB : Top p loose mean mg mb base)
    (D : KtsDicts (outer.filterMap (·.frame)) g) (T0 : KtsTurn (outer.filterMap (·.frame)) g₀ g)
    (hv : m x = some (.ref C)) (q : ktsIn KF C "BaseException" = true)
    (k : ∀ h' g', KtsTurn (outer.filterMap (·.frame)) g₀ g' → Fr g' L h' m → News g' L h' news → Below A₀ base outer g' → KF.In g' → Top p loose mean mg mb g' → KtsDicts (outer.filterMap (·.frame)) g' →
      wpAny (model prog w) ((A₀.deeper (envOf name scope L a cd)).mark (some (.ref e))) (execs (b₀ :: suite) (envOf name scope L a cd)) Q E { s' with heap := h' })
    (hk : scope.kind = .function := by rfl) (hx : (envOf name scope L a cd).kindOf x = some .local := by rfl) (hd : (x == ("__debug__" : Str)) = false := by decide)
    (hE : PassesOwnAt (model prog w) ((A₀.deeper (envOf name scope L a cd)).mark (some (.ref e))) (A₀.deeper (envOf name scope L a cd)) (envOf name scope L a cd) E := by passes_own) :
    wpAny (model prog w) (A₀.deeper (envOf name scope L a cd)) (noteFrame (.ref e) (envOf name scope L a cd))
      (fun _ s₂ => wpAny (model prog w) (A₀.deeper (envOf name scope L a cd)) (setFlight (.ref e) none) (fun _ s₃ =>
        wpAny (model prog w) (A₀.deeper (envOf name scope L a cd)) (handleBy (.ref e) (envOf name scope L a cd) (.ExceptHandler (some (.Name x np)) none (b₀ :: suite) pos :: rest)) Q E s₃) E s₂) E s' := by
  obtain ⟨⟨B, hB, hBG, hl, hfl, hnew⟩, htup⟩ := R
  have hL : B.get? L = none := by
    obtain ⟨_, ⟨L', _, hf, hn', _⟩, _⟩ := hfl.2.2.1
    obtain rfl : L = L' := Option.some.inj hf
    exact hn'
  refine wpAny_looks_onW (Around.frames_deeper K.stack) rfl hfl fun h₄ hheld₄ hsm₄ => ?_
  refine wpAny_landsW hheld₄ fun h₅ hheld hsm₅' => ?_
  have hsm₅ := hsm₄.trans hsm₅'
  obtain ⟨g₅, T₅, F₅, K₅⟩ := kts_ground K F hBG hheld.1 (hsm.trans hsm₅)
  have X₅ : KF.In g₅ := XB.keeps K₅.stays
  obtain ⟨ob, hob, hobc⟩ := hheld.there
  obtain ⟨nm, q', N, bs, bm, hdct, sn, sub, ab, col, dd, k0, k1, k2, k3, k5, newId, hC, hbase, hbT⟩ := kts_cls X₅ q
  have hC₅ := F₅.keep _ _ hC
  refine wpAny_handleBy_cons (codeAny_handlers_test (ld F₅ hv ?_ hk hx hd)) (by intro q; cases q)
  refine wpAny_excMatches_sub_self hC₅ hob hobc hbase (codeAny_handlers_suite ?_)
  refine lands_againW hheld fun h₆ hfl₆ hsm₆ => ?_
  obtain ⟨g₆, T₆, F₆, K₆⟩ := kts_ground K F hBG hfl₆.1 ((hsm.trans hsm₅).trans hsm₆)
  have Nl : News g₆ L h₆ news := fun q hq => ⟨hfl₆.1 _ _ (hl q hq).1, (fun z => by have := (hl q hq).1; rw [z, hL] at this; cases this), T₆.none_ _ (kts_none F.keep (hl q hq).2.1)⟩
  exact wpAny_passesOwnAt hE (k h₆ g₆ (T0.trans T₆) F₆ Nl K₆ (XB.keeps K₆.stays) (TB.keeps K₆.stays) (D.turn T₆))
end

/-- the law's end -/
theorem good_true {ws : List Int} {s₁ s' : Shared} {L : Addr} {m : Str → Option Value} {mean : ExcName → Option Value} {ca : Str → Option Addr} (F : Fr s₁.heap L s'.heap m) (hg : s'.gens = #[]) (hos : s'.os = s₁.os) :
    GoodW PySem.Challenge.rw_nn0009_01.row.claim ca mean [ofPy (PyData.list (ws.map PyData.int))] s₁ (.ok (.ret (.bool true))) s' := by
  refine goodW_bool F hg (raisesW_false ?g3) ?g4 hos
  case g3 => wrow_none_raised
  case g4 => kc_post
theorem ints_uniq : ∀ {vs : List Value} {a b : List Int}, IntsAre vs a → IntsAre vs b → a = b
  | [], [], [], .nil, .nil => rfl
  | _ :: _, _ :: _, _ :: _, .cons _ _ h, .cons _ _ h' => by rw [ints_uniq h h']
section
variable {d : Nat} {w : World} {f : Addr} {vs : List Value} {A : Around} {s : Shared} {Q E : Value → Shared → Prop} {p : Program} {loose : List Str} {mean : ExcName → Option Value} {mg mb : Str → Option Value} {base : Heap} {outer : List Env} {env : Env} {A₀ : Around} {h₀ : Heap} {L : Addr} {m : Str → Option Value} {news : List (Addr × Obj)}
/-- a call whose value is an argument or a new list of ints: two ways -/
theorem callR2 {P : List Int → Prop} {la : Addr} {va : List Value} {na : List Int} (hna : IntsAre va na) (H : Fn d w f vs s.heap (fun v h' => ∃ xs, P xs ∧ ROut s.heap la va xs v h'))
    (B : Below A₀ base outer h₀) (F : Fr h₀ L s.heap m) (X : (hd.heap_39 w.params).In h₀) (N : News h₀ L s.heap news) (T : Top p loose mean mg mb h₀) (hA : A.frames = some (env :: outer)) (hf : env.frame = some L) (hk : env.scope.kind = .function)
    (h1 : A.depth + d < recursionLimit) (h2 : A.units + 20 * d < cLine) (h3 : A.handled = none)
    (ret : ∀ a its n xs h' tk', Fr h₀ L h' m → News h₀ L h' ((a, listOf its.toArray n) :: news) → AllNe a news → IntsAre its xs → P xs → Q (.ref a) { s with heap := h', toks := tk' })
    (ret' : ∀ h' tk', Fr h₀ L h' m → News h₀ L h' news → P na → Q (.ref la) { s with heap := h', toks := tk' }) :
    wpAny (model PySem.Challenge.rw_nn0009_01.row.prog w) A (call (.ref f) vs) Q E s :=
  H A s Q E rfl (Amb.mk' B F X T hA hf hk h1 h2 h3) fun v h' tk' st ⟨xs, hp, r, its, e, hi, hc⟩ => by
    subst e
    rcases hc with ⟨n, ho, hn⟩ | ⟨rfl, rfl⟩
    · exact ret r its n xs h' tk' (F.grownK st) (News.cons' F N st ho hn) (allNe_new N hn) hi hp
    · exact ret' h' tk' (F.grownK st) (News.stays N st) (ints_uniq hi hna ▸ hp)
end
theorem bits_facts {x n c : Int} (hx : 0 ≤ x) (hc : x < c) (hn : 0 ≤ n ∧ n < 24) (h0 : n ≠ 0) :
    (1 ≤ n ∧ n ≤ 30) ∧ (2 : Int) ≤ 2 ^ n.toNat ∧ (2 : Int) ^ n.toNat - 1 ≠ 0 ∧ (2 : Int) ^ n.toNat + 1 ≠ 0 ∧ 0 ≤ x.fmod (2 ^ n.toNat + 1) ∧ x.fmod (2 ^ n.toNat + 1) < c ∧ x.fmod (2 ^ n.toNat + 1) = x % (2 ^ n.toNat + 1) ∧ 0 ≤ x.fmod (2 ^ n.toNat - 1) ∧ x.fmod (2 ^ n.toNat - 1) < c ∧ x.fmod (2 ^ n.toNat - 1) = x % (2 ^ n.toNat - 1) ∧ 0 < c := by
  have hN : (2 : Int) ≤ 2 ^ n.toNat := by have := pow_le_pow (B := 2) (by decide) (m := 1) (n := n.toNat) (by omega); simpa using this
  have a := law_dm hx hc (show (0 : Int) < 2 ^ n.toNat + 1 by omega)
  have b := law_dm hx hc (show (0 : Int) < 2 ^ n.toNat - 1 by omega)
  exact ⟨by omega, hN, by omega, by omega, a.2.2.2.1, a.2.2.2.2.1, a.2.2.2.2.2, b.2.2.2.1, b.2.2.2.2.1, b.2.2.2.2.2, by omega⟩
/-- one bit: nothing is left -/
theorem bits_one {x n : Int} (hn : 1 ≤ n ∧ n ≤ 30) (h : ¬ n > 1) : x % (2 ^ n.toNat - 1) = 0 := by
  have e : n = 1 := by omega
  subst e
  show x % ((2 : Int) ^ 1 - 1) = 0
  rw [show ((2 : Int) ^ 1 - 1) = 1 by decide]
  exact Int.emod_one x
theorem fill_all : PySem.Challenge.rw_nn0009_01.prog = PySem.Challenge.rw_nn0009_01.prog ∧ hd.heap_39 = hd.heap_39 := by
  w_top off
  k_fill
  exact ⟨rfl, rfl⟩
local macro_rules | `(tactic| omega) => `(tactic| first | with_reducible assumption | with_reducible exact Int.natCast_nonneg _ | (with_reducible exact small_len (by with_reducible assumption) rfl) | (with_reducible exact small_len' (by with_reducible assumption) rfl) | (exact room_of (by with_reducible assumption) rfl) | (exact unit_of (by with_reducible assumption) rfl) | omega +splitDisjunctions)
local macro_rules | `(tactic| walk_at "pyIter ref") => `(tactic| k_extra "pyIter ref")
local macro_rules | `(tactic| walk_at "exec While Compare cons nil") => `(tactic| k_extra "exec While Compare cons nil")
local macro_rules | `(tactic| k_ne) => `(tactic| ((try dsimp only); first | with_reducible assumption | (refine' AllNe.l ?h9 ?hm9; (case h9 => with_reducible assumption); (case hm9 => k_dflt k_mem)) | (refine' AllNe.r ?h9 ?hm9; (case h9 => with_reducible assumption); (case hm9 => k_dflt k_mem)) | (refine neN ?_; omega)))
local macro_rules | `(tactic| walk_at "subscriptTail Name Slice ref ref") => `(tactic| (k_here; (with_reducible show wpAny _ _ (subscriptTail _ (PySem.Expr.Slice _ _ none _) (Value.ref _) (Value.ref _)) _ _ _); k_dflt (refine' kmk_slice_ints ?F ?N ?l ?p ?q ?i ?m ?c ?_ ?s ?t ?z; (case F => k_asm); (case N => k_asm); (case l => (first | (with_reducible assumption) | assumption | exact Fr.lst (by assumption) (by assumption) | exact News.isL (by assumption) (by k_mem) | exact News.isLp (by assumption) (by k_mem) | exact News.isL0 (by assumption) (by k_mem) | exact ArgLst.at' (by assumption) (by assumption) (by assumption) (by assumption) (by ((intro p9 hp9; repeat (first | exact hp9 | refine List.Mem.tail _ ?_)))) | exact NewLst.at' (by assumption) (by assumption) (by ((intro p9 hp9; repeat (first | exact hp9 | refine List.Mem.tail _ ?_)))) | exact IsLst.at' (by assumption) (by assumption) (by assumption) (by ((intro p9 hp9; repeat (first | exact hp9 | refine List.Mem.tail _ ?_)))))); (case p => kmk_part); (case q => kmk_part); (case i => (first | assumption | exact IntsAre.nil | exact .cons _ _ .nil | exact IntsAre.append (by assumption) (.cons _ _ .nil))); (case m => first | exact kmk_all (by (first | assumption | exact IntsAre.nil | exact .cons _ _ .nil | exact IntsAre.append (by assumption) (.cons _ _ .nil))) | exact kmk_from (by (first | assumption | exact IntsAre.nil | exact .cons _ _ .nil | exact IntsAre.append (by assumption) (.cons _ _ .nil))) (by (first | decide | omega)) | exact kmk_upto (by (first | assumption | exact IntsAre.nil | exact .cons _ _ .nil | exact IntsAre.append (by assumption) (.cons _ _ .nil))) (by (first | decide | omega)) | exact kmk_run (by (first | assumption | exact IntsAre.nil | exact .cons _ _ .nil | exact IntsAre.append (by assumption) (.cons _ _ .nil))) (by (first | decide | omega)) (by (first | decide | omega))); (case c => kmk_len); (case s => with_unfolding_all rfl); (case t => kmk_pure); (case z => exact kmk_sz (by (first | assumption | exact IntsAre.nil | exact .cons _ _ .nil | exact IntsAre.append (by assumption) (.cons _ _ .nil))) (by rw [sizeLine_eq]; omega))); intro D' ws' h' F' N' l1 hI' hC' hL'; (try k_lt l1); (try k_sweep)))
section FNormal
theorem fill_FNormal : PySem.Challenge.rw_nn0009_01.prog = PySem.Challenge.rw_nn0009_01.prog ∧ hd.heap_39 = hd.heap_39 := by
  w_top off
  k_fill
  exact ⟨rfl, rfl⟩
theorem bool_norm {c : Prop} [Decidable c] {b : Bool} : (if c then if b = true then true else false else false) = true ↔ c ∧ b = true := by
  by_cases hc : c <;> cases b <;> simp [hc]
theorem normal_end {B : Int} (hB : 0 < B) {na : List Int} {k : Int} (hLim : Lim B na) (h1 : k ≤ (na.length : Int)) (h2 : min (na.length : Int) 0 ≤ k)
    (h3 : ∀ (j : Int), k < j → j ≤ (na.length : Int) → (if 0 < j then if (na.getD (j - 1).toNat 0 == 0) = true then true else false else false) = true)
    (h4 : (if 0 < k then if (na.getD (k - 1).toNat 0 == 0) = true then true else false else false) = false) : Row B (na.take k.toNat) (val B na) := by
  refine normal_row hB hLim (fun i hi hl => ?_) (by omega) fun hk => ?_
  · have := bool_norm.mp (h3 (i + 1) (by omega) (by omega))
    rw [show ((i : Int) + 1 - 1).toNat = i by omega] at this
    simpa using this.2
  · intro e
    rw [← Bool.not_eq_true, bool_norm] at h4
    exact h4 ⟨by omega, by rw [show (k - 1).toNat = k.toNat - 1 by omega, e]; rfl⟩
/-- normal: a row's noughts at its end are cut off -/
theorem normal_fn (w : World) (g : Heap) (B : Int) (hB : 0 < B) (la : Addr) (va : List Value) (na : List Int) (hl : g.IsList la va.toArray) (hi : IntsAre va na) (hs : na.length ≤ 400) (hLim : Lim B na) :
    Fn 1 w 58 [.ref la] g (fun v h' => ∃ xs, Row B xs (val B na) ∧ LOut g xs v h') := by
  with_unfolding_all refine' enter2 ?k6 ?k7 ?k9 ?kB ?c5 ?c2 ?c3 ?c4 ?_
  case k6 => k_is
  case k7 => k_is
  case k9 => intro s; exact BindsTo.of_eq rfl
  case kB => exact locs rfl
  case c5 => decide
  case c2 => exact rfl
  case c3 => exact rfl
  case c4 => exact rfl
  dsimp only [fnOf]
  intro dp un gd outer base A₀ p loose mean mg mb L' h₁ gn dr tk os Q' hdp hun B' X' T' F' N' ret
  repeat' (first | (first | ((with_reducible show wpAny _ _ (execs (_ :: _) _) _ _ _); walk1; refine wp_abs ?_; intro _ _; (try dsimp only)) | ((with_reducible refine use_abs (α := Flow) (by with_reducible assumption) ?_); (try (rename ∀ (_ : Flow) (_ : Shared), _ → _ => z9; clear z9)); (try (rename Flow → Shared → Prop => z8; clear z8)); (try dsimp only)) | (k_unfold; (try dsimp only)) | (k_end; kc_close) | walk1 | (dsimp only; walk1) | (leave1; (try dsimp only))))
  all_goals (try dsimp only)
  refine ret _ _ _ (Fr.keep (by assumption)) ?_
  rename_i k _ _ _ h1 h2 h3 h4 _ _ _ _ _ N9 I9 _ _ _
  exact ⟨_, normal_end hB hLim h1 h2 h3 h4, LOut.mk N9 (.head _) I9⟩

end FNormal
section FCompare
theorem fill_FCompare : PySem.Challenge.rw_nn0009_01.prog = PySem.Challenge.rw_nn0009_01.prog ∧ hd.heap_39 = hd.heap_39 := by
  w_top off
  k_fill
  exact ⟨rfl, rfl⟩
theorem compare_len {B : Int} (hB : 0 < B) {x y : Int} {xs ys : List Int} (R : Row B xs x) (S : Row B ys y) (h : (xs.length : Int) < ys.length) : x < y := by
  by_cases h1 : x < y
  · exact h1
  · have := S.len_mono hB R (by omega)
    omega
theorem getD_ext {xs ys : List Int} (hl : xs.length = ys.length) {k : Nat} (h : ∀ j, k ≤ j → j < xs.length → xs.getD j 0 = ys.getD j 0) : xs.drop k = ys.drop k := by
  refine List.ext_getElem? fun i => ?_
  rw [List.getElem?_drop, List.getElem?_drop]
  by_cases hi : k + i < xs.length
  · have := h (k + i) (by omega) hi
    rw [List.getD_eq_getElem?_getD, List.getD_eq_getElem?_getD, List.getElem?_eq_getElem hi, List.getElem?_eq_getElem (hl ▸ hi)] at this
    rw [List.getElem?_eq_getElem hi, List.getElem?_eq_getElem (hl ▸ hi)]
    simpa using this
  · rw [List.getElem?_eq_none (by omega), List.getElem?_eq_none (by omega)]
theorem compare_at {B : Int} (hB : 0 < B) {xs ys : List Int} (h1 : Lim B xs) (h2 : Lim B ys) (hl : xs.length = ys.length) {k : Nat} (hk : k < xs.length) (h : ∀ j, k + 1 ≤ j → j < xs.length → xs.getD j 0 = ys.getD j 0) (hlt : xs.getD k 0 < ys.getD k 0) :
    val B xs < val B ys := by
  have e1 := val_split B xs (k + 1) (by omega)
  have e2 := val_split B ys (k + 1) (by omega)
  rw [getD_ext hl h, val_take_succ] at e1
  rw [val_take_succ] at e2
  have a1 := val_lt hB (h1.take k)
  rw [List.length_take, Nat.min_eq_left (by omega)] at a1
  have a2 := val_nonneg hB (h2.take k)
  have a3 : B ^ k * (xs.getD k 0 + 1) ≤ B ^ k * ys.getD k 0 := Int.mul_le_mul_of_nonneg_left (by omega) (Int.le_of_lt (pow_pos hB k))
  rw [Int.mul_add, Int.mul_one] at a3
  omega
theorem compare_next {na nb : List Int} {pre : List Int} {k : Int} (hP : ∀ j : Nat, na.length - pre.length ≤ j → j < na.length → na.getD j 0 = nb.getD j 0) (hk : k = (na.length : Int) - 1 - (pre.length : Int)) (heq : na.getD k.toNat 0 = nb.getD k.toNat 0) :
    ∀ j : Nat, na.length - (pre ++ [k]).length ≤ j → j < na.length → na.getD j 0 = nb.getD j 0 := by
  intro j h1 h2
  rw [List.length_append, List.length_singleton] at h1
  by_cases hj : j = k.toNat
  · rw [hj]; exact heq
  · exact hP j (by omega) h2
theorem compare_fn (w : World) (g : Heap) (B : Int) (hB : 0 < B) (la : Addr) (va : List Value) (na : List Int) (x : Int) (hl : g.IsList la va.toArray) (hi : IntsAre va na) (hs : na.length ≤ 400) (R : Row B na x)
    (lb : Addr) (vb : List Value) (nb : List Int) (y : Int) (hlb : g.IsList lb vb.toArray) (hib : IntsAre vb nb) (hsb : nb.length ≤ 400) (S : Row B nb y) :
    Fn 1 w 65 [.ref la, .ref lb] g (fun v _ => ∃ i t, (i = if x < y then -1 else if y < x then 1 else 0) ∧ v = .int i t) := by
  with_unfolding_all refine' enter2 ?k6 ?k7 ?k9 ?kB ?c5 ?c2 ?c3 ?c4 ?_
  case k6 => k_is
  case k7 => k_is
  case k9 => intro s; exact BindsTo.of_eq rfl
  case kB => exact locs rfl
  case c5 => decide
  case c2 => exact rfl
  case c3 => exact rfl
  case c4 => exact rfl
  dsimp only [fnOf]
  intro dp un gd outer base A₀ p loose mean mg mb L' h₁ gn dr tk os Q' hdp hun B' X' T' F' N' ret
  k_with "state" => exact compare_next (by assumption) (by assumption) (by assumption)
  repeat' (first | (first | ((with_reducible show wpAny _ _ (execs (_ :: _) _) _ _ _); walk1; refine wp_abs ?_; intro _ _; (try dsimp only)) | ((with_reducible refine use_abs (α := Flow) (by with_reducible assumption) ?_); (try (rename ∀ (_ : Flow) (_ : Shared), _ → _ => z9; clear z9)); (try (rename Flow → Shared → Prop => z8; clear z8)); (try dsimp only)) | (k_unfold; (try dsimp only)) | (k_end; kc_close) | walk1 | (dsimp only; walk1) | (leave1; (try dsimp only))))
  all_goals (try dsimp only)
  · refine ret _ _ _ (Fr.keep (by assumption)) ⟨_, _, ?_, rfl⟩
    rename_i h
    rw [if_pos (compare_len hB R S h)]
  · refine ret _ _ _ (Fr.keep (by assumption)) ⟨_, _, ?_, rfl⟩
    rename_i h0 h
    have : y < x := compare_len hB S R (by omega)
    rw [if_neg (by omega), if_pos this]
  · rename_i hlen _ _ _ _ _ _ hR F9 N9 _
    have hlen : na.length = nb.length := by omega
    with_unfolding_all refine' kst_rangeD (σ := Unit) (fun _ => []) (fun _ => []) (fun _ => True) [] (fun pre _ => ∀ j : Nat, na.length - pre.length ≤ j → j < na.length → na.getD j 0 = nb.getD j 0) () rfl hR (small_down (by omega) (by omega) (by omega) (by omega)) (rangeSize_downNat _ _) F9 N9 trivial (fun _ h => nomatch h) (fun j h1 h2 => absurd h2 (Nat.not_lt.mpr h1)) ?_ ?_
    · clear F9 N9
      intro _ pre k t u h tk own hk hlt _ _ hP F9 N9
      dsimp only [kstB] at F9
      repeat' (first | (first | ((with_reducible show wpAny _ _ (execs (_ :: _) _) _ _ _); walk1; refine wp_abs ?_; intro _ _; (try dsimp only)) | ((with_reducible refine use_abs (α := Flow) (by with_reducible assumption) ?_); (try (rename ∀ (_ : Flow) (_ : Shared), _ → _ => z9; clear z9)); (try (rename Flow → Shared → Prop => z8; clear z8)); (try dsimp only)) | (k_unfold; (try dsimp only)) | (k_end; kc_close) | walk1 | (dsimp only; walk1) | (leave1; (try dsimp only))))
      · rename_i hne _ _ hl9
        refine ret _ _ _ (Fr.keep (by assumption)) ⟨_, _, ?_, rfl⟩
        have : x < y := by
          rw [← R.val, ← S.val]
          exact compare_at hB R.lim S.lim hlen (k := k.toNat) (by omega) (fun j h1 h2 => hP j (by omega) h2) hl9
        rw [if_pos this]
      · rename_i hne _ _ hl9
        refine ret _ _ _ (Fr.keep (by assumption)) ⟨_, _, ?_, rfl⟩
        have : y < x := by
          rw [← R.val, ← S.val]
          exact compare_at hB S.lim R.lim hlen.symm (k := k.toNat) (by omega) (fun j h1 h2 => (hP j (by omega) (by omega)).symm) (by omega)
        rw [if_neg (by omega), if_pos this]
    · clear F9 N9
      intro _ u h tk _ hP F9 N9
      repeat' (first | (first | ((with_reducible show wpAny _ _ (execs (_ :: _) _) _ _ _); walk1; refine wp_abs ?_; intro _ _; (try dsimp only)) | ((with_reducible refine use_abs (α := Flow) (by with_reducible assumption) ?_); (try (rename ∀ (_ : Flow) (_ : Shared), _ → _ => z9; clear z9)); (try (rename Flow → Shared → Prop => z8; clear z8)); (try dsimp only)) | (k_unfold; (try dsimp only)) | (k_end; kc_close) | walk1 | (dsimp only; walk1) | (leave1; (try dsimp only))))
      (try dsimp only)
      refine ret _ _ _ (Fr.keep (by assumption)) ⟨_, _, ?_, rfl⟩
      have e : na = nb := by
        have := getD_ext hlen (k := 0) (fun j h1 h2 => hP j (by rw [downKs_length]; omega) h2)
        simpa using this
      have : x = y := by rw [← R.val, ← S.val, e]
      rw [if_neg (by omega), if_neg (by omega)]

end FCompare
section FAdd
theorem fill_FAdd : PySem.Challenge.rw_nn0009_01.prog = PySem.Challenge.rw_nn0009_01.prog ∧ hd.heap_39 = hd.heap_39 := by
  w_top off
  k_fill
  exact ⟨rfl, rfl⟩
/-- the state of add's loops: i limbs are written -/
def AddS (B : Int) (na nb : List Int) (i : Nat) (c : Int) (xs : List Int) : Prop :=
  Lim B xs ∧ xs.length = i ∧ 0 ≤ c ∧ c ≤ 1 ∧ val B xs + B ^ i * c = val B (na.take i) + val B (nb.take i)
theorem AddS.start {B : Int} {na nb : List Int} : AddS B na nb 0 0 [] := ⟨.nil, rfl, by decide, by decide, by simp [val]⟩
theorem AddS.step {B : Int} (hB : 0 < B) {na nb xs : List Int} {i : Nat} {c : Int} (ha : Lim B na) (hb : Lim B nb) (S : AddS B na nb i c xs) :
    AddS B na nb (i + 1) ((c + (na.getD i 0 + nb.getD i 0)) / B) (xs ++ [(c + (na.getD i 0 + nb.getD i 0)) % B]) := by
  obtain ⟨h1, h2, h3, h4, h5⟩ := S
  have a := ha.getD hB i
  have b := hb.getD hB i
  generalize hs : c + (na.getD i 0 + nb.getD i 0) = s
  have e := Int.emod_add_mul_ediv s B
  refine ⟨h1.snoc ⟨Int.emod_nonneg _ (by omega), Int.emod_lt_of_pos _ hB⟩, by rw [List.length_append, h2]; rfl, Int.ediv_nonneg (by omega) (by omega), ?_, ?_⟩
  · have : s / B < 2 := Int.ediv_lt_of_lt_mul hB (by omega)
    omega
  · rw [val_append, h2, val_take_succ, val_take_succ, val_cons, val_nil, Int.pow_succ]
    have : B ^ i * (s % B + B * (s / B)) = B ^ i * s := by rw [e]
    grind
theorem AddS.step1 {B : Int} (hB : 0 < B) {na nb xs : List Int} {i : Nat} {c : Int} (ha : Lim B na) (hb : Lim B nb) (hi : nb.length ≤ i) (S : AddS B na nb i c xs) :
    AddS B na nb (i + 1) ((c + na.getD i 0) / B) (xs ++ [(c + na.getD i 0) % B]) := by
  have := S.step hB ha hb
  rw [show nb.getD i 0 = 0 by rw [List.getD_eq_getElem?_getD, List.getElem?_eq_none hi]; rfl, Int.add_zero] at this
  exact this
theorem AddS.done0 {B x y : Int} (hB : 0 < B) {na nb xs : List Int} (R : Row B na x) (T : Row B nb y) (hl : nb.length ≤ na.length) (S : AddS B na nb na.length 0 xs) : Row B xs (x + y) := by
  obtain ⟨h1, h2, h3, h4, h5⟩ := S
  rw [val_take_all B (Nat.le_refl _), val_take_all B hl, R.val, T.val] at h5
  refine Row.of_ge hB h1 (by omega) fun h0 => ?_
  have := R.ge hB (by omega)
  have := T.nonneg hB
  rw [h2]; omega
theorem AddS.done1 {B x y c : Int} (hB : 2 ≤ B) {na nb xs : List Int} (R : Row B na x) (T : Row B nb y) (hl : nb.length ≤ na.length) (hc : 0 < c) (S : AddS B na nb na.length c xs) : Row B (xs ++ [c]) (x + y) := by
  obtain ⟨h1, h2, h3, h4, h5⟩ := S
  rw [val_take_all B (Nat.le_refl _), val_take_all B hl, R.val, T.val] at h5
  have e : val B (xs ++ [c]) = x + y := by rw [val_append, val_cons, val_nil, h2]; grind
  refine Row.of_ge (by omega) (h1.snoc (by omega)) e fun h0 => ?_
  have a := val_nonneg (by omega) h1
  have b := pow_pos (B := B) (by omega) na.length
  have d : B ^ na.length * 1 ≤ B ^ na.length * c := Int.mul_le_mul_of_nonneg_left (by omega) (by omega)
  rw [List.length_append, h2, List.length_singleton, Nat.add_sub_cancel]
  omega
theorem add_turn1 {W : Int} {a b pre xs : List Int} {c k : Int} (ha : Lim (bs W) a) (hb : Lim (bs W) b) (P : xs.length = pre.length ∧ AddS (bs W) a b xs.length c xs) (hk : k = 0 + (pre.length : Int)) :
    (xs ++ [Builtin.bitAnd (c + (a.getD k.toNat 0 + b.getD k.toNat 0)) (1 * 2 ^ W.toNat - 1)]).length = (pre ++ [k]).length ∧ AddS (bs W) a b (xs ++ [Builtin.bitAnd (c + (a.getD k.toNat 0 + b.getD k.toNat 0)) (1 * 2 ^ W.toNat - 1)]).length ((c + (a.getD k.toNat 0 + b.getD k.toNat 0)).fdiv (2 ^ W.toNat)) (xs ++ [Builtin.bitAnd (c + (a.getD k.toNat 0 + b.getD k.toNat 0)) (1 * 2 ^ W.toNat - 1)]) := by
  obtain ⟨h1, h2⟩ := P
  have e : k.toNat = xs.length := by omega
  have a1 := ha.getD (bs_pos W) k.toNat
  have b1 := hb.getD (bs_pos W) k.toNat
  rw [bitAnd_mask _ _ (by have := h2.2.2.1; omega), fdiv_pow]
  refine ⟨by simp [h1], ?_⟩
  rw [List.length_append, List.length_singleton, e]
  exact h2.step (bs_pos W) ha hb
theorem add_turn2 {W : Int} {a b pre xs : List Int} {c k : Int} (ha : Lim (bs W) a) (hb : Lim (bs W) b) (P : xs.length = b.length + pre.length ∧ AddS (bs W) a b xs.length c xs) (hk : k = (b.length : Int) + (pre.length : Int)) :
    (xs ++ [Builtin.bitAnd (c + a.getD k.toNat 0) (1 * 2 ^ W.toNat - 1)]).length = b.length + (pre ++ [k]).length ∧ AddS (bs W) a b (xs ++ [Builtin.bitAnd (c + a.getD k.toNat 0) (1 * 2 ^ W.toNat - 1)]).length ((c + a.getD k.toNat 0).fdiv (2 ^ W.toNat)) (xs ++ [Builtin.bitAnd (c + a.getD k.toNat 0) (1 * 2 ^ W.toNat - 1)]) := by
  obtain ⟨h1, h2⟩ := P
  have e : k.toNat = xs.length := by omega
  have a1 := ha.getD (bs_pos W) k.toNat
  rw [bitAnd_mask _ _ (by have := h2.2.2.1; omega), fdiv_pow]
  refine ⟨by simp [h1]; omega, ?_⟩
  rw [List.length_append, List.length_singleton, e]
  exact h2.step1 (bs_pos W) ha hb (by omega)
theorem add_end1 {B x y c : Int} (hB : 2 ≤ B) {a b xs : List Int} (R : Row B a x) (S : Row B b y) (hl : b.length ≤ a.length) (hx : xs.length = b.length + (rangeKs (b.length : Int) ((a.length : Int) - (b.length : Int)).toNat).length) (h : AddS B a b xs.length c xs) (hc : 0 < c) : Row B (xs ++ [c]) (x + y) := by
  rw [rangeKs_length] at hx
  rw [show xs.length = a.length by omega] at h
  exact h.done1 hB R S hl hc
theorem add_end0 {B x y c : Int} (hB : 0 < B) {a b xs : List Int} (R : Row B a x) (S : Row B b y) (hl : b.length ≤ a.length) (hx : xs.length = b.length + (rangeKs (b.length : Int) ((a.length : Int) - (b.length : Int)).toNat).length) (h : AddS B a b xs.length c xs) (hc : ¬ 0 < c) : Row B xs (x + y) := by
  rw [rangeKs_length] at hx
  rw [show xs.length = a.length by omega, show c = 0 by have := h.2.2.1; omega] at h
  exact h.done0 hB R S hl
theorem add_mid {xs b : List Int} {P : Prop} (e : xs.length = (rangeKs 0 ((b.length : Int) - 0).toNat).length) (h : P) : xs.length = b.length + ([] : List Int).length ∧ P := by
  rw [rangeKs_length] at e
  exact ⟨by simp; omega, h⟩
theorem add_ge (w : World) (g : Heap) (W : Int) (tw : Tok) (hW : 2 ≤ W ∧ W ≤ 9) (la : Addr) (va : List Value) (na : List Int) (x : Int) (hl : g.IsList la va.toArray) (hi : IntsAre va na) (hs : na.length ≤ 300) (R : Row (bs W) na x)
    (lb : Addr) (vb : List Value) (nb : List Int) (y : Int) (hlb : g.IsList lb vb.toArray) (hib : IntsAre vb nb) (hsb : nb.length ≤ 300) (S : Row (bs W) nb y) (hlen : nb.length ≤ na.length) :
    Fn 1 w 72 [.ref la, .ref lb, .int W tw] g (fun v h' => ∃ xs, Row (bs W) xs (x + y) ∧ LOut g xs v h') := by
  with_unfolding_all refine' enter2 ?k6 ?k7 ?k9 ?kB ?c5 ?c2 ?c3 ?c4 ?_
  case k6 => k_is
  case k7 => k_is
  case k9 => intro s; exact BindsTo.of_eq rfl
  case kB => exact locs rfl
  case c5 => decide
  case c2 => exact rfl
  case c3 => exact rfl
  case c4 => exact rfl
  dsimp only [fnOf]
  intro dp un gd outer base A₀ p loose mean mg mb L' h₁ gn dr tk os Q' hdp hun B' X' T' F' N' ret
  have hLa := R.lim
  have hLb := S.lim
  k_with "state" => first | exact ⟨rfl, AddS.start⟩ | exact add_mid (by assumption) (by assumption) | exact add_turn1 (by assumption) (by assumption) ⟨by assumption, by assumption⟩ (by assumption) | exact add_turn2 (by assumption) (by assumption) ⟨by assumption, by assumption⟩ (by assumption)
  k_with "pyIter ref" => ((with_reducible rename AddS _ _ _ _ _ _ => zz); k_state (fun pre c xs => xs.length = nb.length + pre.length ∧ AddS (bs W) na nb xs.length c xs) "carry" "found")
  k_with "pyIter ref" => ((fail_if_success (with_reducible rename AddS _ _ _ _ _ _ => zz)); k_state (fun pre c xs => xs.length = pre.length ∧ AddS (bs W) na nb xs.length c xs) "carry" "found")
  repeat' (first | (first | ((with_reducible show wpAny _ _ (execs (_ :: _) _) _ _ _); walk1; refine wp_abs ?_; intro _ _; (try dsimp only)) | ((with_reducible refine use_abs (α := Flow) (by with_reducible assumption) ?_); (try (rename ∀ (_ : Flow) (_ : Shared), _ → _ => z9; clear z9)); (try (rename Flow → Shared → Prop => z8; clear z8)); (try dsimp only)) | (k_unfold; (try dsimp only)) | (k_end; kc_close) | walk1 | (dsimp only; walk1) | (leave1; (try dsimp only))))
  all_goals (try dsimp only)
  · refine' ret _ _ _ (Fr.keep (by assumption)) (Exists.intro ?xs1 (And.intro ?ro1 ?lo1))
    case lo1 => (first | exact LOut.mk (by assumption) (by k_mem) (by assumption) | exact LOut.mkNil (by assumption) (by k_mem) | exact LOut.mkPush (by assumption) (by k_mem) (by assumption))
    case ro1 => exact add_end1 (bs_two hW.1) R S hlen (by assumption) (by assumption) (by assumption)
  · refine' ret _ _ _ (Fr.keep (by assumption)) (Exists.intro ?xs2 (And.intro ?ro2 ?lo2))
    case lo2 => (first | exact LOut.mk (by assumption) (by k_mem) (by assumption) | exact LOut.mkNil (by assumption) (by k_mem) | exact LOut.mkPush (by assumption) (by k_mem) (by assumption))
    case ro2 => exact add_end0 (bs_pos W) R S hlen (by assumption) (by assumption) (by assumption)
theorem add_lt (w : World) (g : Heap) (W : Int) (tw : Tok) (hW : 2 ≤ W ∧ W ≤ 9) (la : Addr) (va : List Value) (na : List Int) (x : Int) (hl : g.IsList la va.toArray) (hi : IntsAre va na) (hs : na.length ≤ 300) (R : Row (bs W) na x)
    (lb : Addr) (vb : List Value) (nb : List Int) (y : Int) (hlb : g.IsList lb vb.toArray) (hib : IntsAre vb nb) (hsb : nb.length ≤ 300) (S : Row (bs W) nb y) (hlen : na.length < nb.length) :
    Fn 1 w 72 [.ref la, .ref lb, .int W tw] g (fun v h' => ∃ xs, Row (bs W) xs (x + y) ∧ LOut g xs v h') := by
  with_unfolding_all refine' enter2 ?k6 ?k7 ?k9 ?kB ?c5 ?c2 ?c3 ?c4 ?_
  case k6 => k_is
  case k7 => k_is
  case k9 => intro s; exact BindsTo.of_eq rfl
  case kB => exact locs rfl
  case c5 => decide
  case c2 => exact rfl
  case c3 => exact rfl
  case c4 => exact rfl
  dsimp only [fnOf]
  intro dp un gd outer base A₀ p loose mean mg mb L' h₁ gn dr tk os Q' hdp hun B' X' T' F' N' ret
  have hLa := R.lim
  have hLb := S.lim
  k_with "state" => first | exact ⟨rfl, AddS.start⟩ | exact add_mid (by assumption) (by assumption) | exact add_turn1 (by assumption) (by assumption) ⟨by assumption, by assumption⟩ (by assumption) | exact add_turn2 (by assumption) (by assumption) ⟨by assumption, by assumption⟩ (by assumption)
  k_with "pyIter ref" => ((with_reducible rename AddS _ _ _ _ _ _ => zz); k_state (fun pre c xs => xs.length = na.length + pre.length ∧ AddS (bs W) nb na xs.length c xs) "carry" "found")
  k_with "pyIter ref" => ((fail_if_success (with_reducible rename AddS _ _ _ _ _ _ => zz)); k_state (fun pre c xs => xs.length = pre.length ∧ AddS (bs W) nb na xs.length c xs) "carry" "found")
  repeat' (first | (first | ((with_reducible show wpAny _ _ (execs (_ :: _) _) _ _ _); walk1; refine wp_abs ?_; intro _ _; (try dsimp only)) | ((with_reducible refine use_abs (α := Flow) (by with_reducible assumption) ?_); (try (rename ∀ (_ : Flow) (_ : Shared), _ → _ => z9; clear z9)); (try (rename Flow → Shared → Prop => z8; clear z8)); (try dsimp only)) | (k_unfold; (try dsimp only)) | (k_end; kc_close) | walk1 | (dsimp only; walk1) | (leave1; (try dsimp only))))
  all_goals (try dsimp only)
  · refine' ret _ _ _ (Fr.keep (by assumption)) (Exists.intro ?xs3 (And.intro ?ro3 ?lo3))
    case lo3 => (first | exact LOut.mk (by assumption) (by k_mem) (by assumption) | exact LOut.mkNil (by assumption) (by k_mem) | exact LOut.mkPush (by assumption) (by k_mem) (by assumption))
    case ro3 => rw [Int.add_comm]; exact add_end1 (bs_two hW.1) S R (Nat.le_of_lt hlen) (by assumption) (by assumption) (by assumption)
  · refine' ret _ _ _ (Fr.keep (by assumption)) (Exists.intro ?xs4 (And.intro ?ro4 ?lo4))
    case lo4 => (first | exact LOut.mk (by assumption) (by k_mem) (by assumption) | exact LOut.mkNil (by assumption) (by k_mem) | exact LOut.mkPush (by assumption) (by k_mem) (by assumption))
    case ro4 => rw [Int.add_comm]; exact add_end0 (bs_pos W) S R (Nat.le_of_lt hlen) (by assumption) (by assumption) (by assumption)
theorem add_len {B x y : Int} (hB : 2 ≤ B) {na nb xs : List Int} (R : Row B na x) (S : Row B nb y) (h : Row B xs (x + y)) : Row B xs (x + y) ∧ xs.length ≤ max na.length nb.length + 1 := by
  refine ⟨h, h.len_le (by omega) ?_⟩
  have h1 := R.lt (by omega)
  have h2 := S.lt (by omega)
  have h3 := pow_le_pow (B := B) (by omega) (Nat.le_max_left na.length nb.length)
  have h4 := pow_le_pow (B := B) (by omega) (Nat.le_max_right na.length nb.length)
  have h5 := pow_pos (B := B) (by omega) (max na.length nb.length)
  have h6 : B ^ max na.length nb.length * 2 ≤ B ^ max na.length nb.length * B := Int.mul_le_mul_of_nonneg_left hB (by omega)
  rw [Int.pow_succ]
  omega
theorem add_fn (w : World) (g : Heap) (W : Int) (tw : Tok) (hW : 2 ≤ W ∧ W ≤ 9) (la : Addr) (va : List Value) (na : List Int) (x : Int) (hl : g.IsList la va.toArray) (hi : IntsAre va na) (hs : na.length ≤ 300) (R : Row (bs W) na x) (lb : Addr) (vb : List Value) (nb : List Int) (y : Int) (hlb : g.IsList lb vb.toArray) (hib : IntsAre vb nb) (hsb : nb.length ≤ 300) (S : Row (bs W) nb y) :
    Fn 1 w 72 [.ref la, .ref lb, .int W tw] g (fun v h' => ∃ xs, (Row (bs W) xs (x + y) ∧ xs.length ≤ max na.length nb.length + 1) ∧ LOut g xs v h') := by
  rcases Nat.lt_or_ge na.length nb.length with h | h
  · exact (add_lt w g W tw hW la va na x hl hi hs R lb vb nb y hlb hib hsb S h).mono (Nat.le_refl _) fun v h' ⟨xs, r, l⟩ => ⟨xs, add_len (bs_two hW.1) R S r, l⟩
  · exact (add_ge w g W tw hW la va na x hl hi hs R lb vb nb y hlb hib hsb S h).mono (Nat.le_refl _) fun v h' ⟨xs, r, l⟩ => ⟨xs, add_len (bs_two hW.1) R S r, l⟩

end FAdd
section FRow
theorem fill_FRow : PySem.Challenge.rw_nn0009_01.prog = PySem.Challenge.rw_nn0009_01.prog ∧ hd.heap_39 = hd.heap_39 := by
  w_top off
  k_fill
  exact ⟨rfl, rfl⟩
abbrev RowS (W x n : Int) (xs : List Int) : Prop := Lim (bs W) xs ∧ val (bs W) xs + bs W ^ xs.length * n = x ∧ (n = 0 → 0 < xs.length → xs.getD (xs.length - 1) 0 ≠ 0)
theorem row_turn' {B x n : Int} {xs : List Int} (hB : 2 ≤ B) (hcap : x < B ^ 300) (hn : 0 < n) (h1 : xs.length ≤ 300) (h2 : Lim B xs) (h3 : val B xs + B ^ xs.length * n = x) :
    0 ≤ n / B ∧ (xs ++ [n % B]).length ≤ 300 ∧ Lim B (xs ++ [n % B]) ∧ val B (xs ++ [n % B]) + B ^ (xs ++ [n % B]).length * (n / B) = x ∧ (n / B = 0 → 0 < (xs ++ [n % B]).length → (xs ++ [n % B]).getD ((xs ++ [n % B]).length - 1) 0 ≠ 0) := by
  have hp := pow_pos (B := B) (by omega) xs.length
  have e := Int.emod_add_mul_ediv n B
  have h5 := val_nonneg (by omega) h2
  have h6 : B ^ xs.length * 1 ≤ B ^ xs.length * n := Int.mul_le_mul_of_nonneg_left (by omega) (by omega)
  have h7 : xs.length < 300 := by
    rcases Nat.lt_or_ge xs.length 300 with h | h
    · exact h
    · have := pow_le_pow (B := B) (by omega) h
      omega
  refine ⟨Int.ediv_nonneg (by omega) (by omega), by rw [List.length_append, List.length_singleton]; omega, h2.snoc ⟨Int.emod_nonneg _ (by omega), Int.emod_lt_of_pos _ (by omega)⟩, ?_, ?_⟩
  · rw [val_append, val_cons, val_nil, List.length_append, List.length_singleton, Int.pow_succ]
    have : B ^ xs.length * (n % B + B * (n / B)) = B ^ xs.length * n := by rw [e]
    grind
  · intro hz _
    rw [hz] at e
    rw [List.length_append, List.length_singleton, Nat.add_sub_cancel, List.getD_eq_getElem?_getD, List.getElem?_append_right (Nat.le_refl _)]
    simp only [Nat.sub_self, List.getElem?_cons_zero, Option.getD_some]
    omega
theorem row_turn {W x n : Int} {xs : List Int} (hW : 2 ≤ W) (hcap : x < bs W ^ 300) (hn : 0 < n) (h0 : 0 ≤ n ∧ xs.length ≤ 300 ∧ RowS W x n xs) :
    0 ≤ n.fdiv (2 ^ W.toNat) ∧ (xs ++ [n.fmod (2 ^ W.toNat)]).length ≤ 300 ∧ RowS W x (n.fdiv (2 ^ W.toNat)) (xs ++ [n.fmod (2 ^ W.toNat)]) := by
  rw [fdiv_pow, fmod_pow]
  exact row_turn' (bs_two hW) hcap hn h0.2.1 h0.2.2.1 h0.2.2.2.1
theorem row_less' {B n : Int} (hB : 2 ≤ B) (hn : 0 < n) : (n / B).toNat < n.toNat := by
  have h1 : n / B < n := Int.ediv_lt_of_lt_mul (by omega) (by
    have : n * 2 ≤ n * B := Int.mul_le_mul_of_nonneg_left hB (by omega)
    omega)
  omega
theorem row_start {W x : Int} (hx : 0 ≤ x) : 0 ≤ x ∧ ([] : List Int).length ≤ 300 ∧ RowS W x x [] := ⟨hx, by decide, .nil, by simp [val], fun _ h => absurd h (Nat.lt_irrefl _)⟩
theorem row_less {W n : Int} (hW : 2 ≤ W) (hn : 0 < n) : (n.fdiv (2 ^ W.toNat)).toNat < n.toNat := by
  rw [fdiv_pow]
  exact row_less' (bs_two hW) hn
theorem row_end {W x n : Int} {xs : List Int} (h0 : 0 ≤ n) (h : RowS W x n xs) (hn : ¬ 0 < n) : Row (bs W) xs x := by
  obtain ⟨h1, h2, h3⟩ := h
  have : n = 0 := by omega
  subst this
  exact ⟨h1, h3 rfl, by simpa using h2⟩
theorem row_fn (w : World) (g : Heap) (W : Int) (tw : Tok) (hW : 2 ≤ W ∧ W ≤ 9) (x : Int) (tx : Tok) (hx : 0 ≤ x) (hcap : x < bs W ^ 300) :
    Fn 1 w 170 [.int x tx, .int W tw] g (fun v h' => ∃ xs, Row (bs W) xs x ∧ LOut g xs v h') := by
  with_unfolding_all refine' enter2 ?k6 ?k7 ?k9 ?kB ?c5 ?c2 ?c3 ?c4 ?_
  case k6 => k_is
  case k7 => k_is
  case k9 => intro s; exact BindsTo.of_eq rfl
  case kB => exact locs rfl
  case c5 => decide
  case c2 => exact rfl
  case c3 => exact rfl
  case c4 => exact rfl
  dsimp only [fnOf]
  intro dp un gd outer base A₀ p loose mean mg mb L' h₁ gn dr tk os Q' hdp hun B' X' T' F' N' ret
  have hI0 : IntsAre ([] : List Value) [] := IntsAre.nil
  k_with "state" => first | exact row_start hx | exact row_turn hW.1 hcap (by assumption) ⟨by assumption, by assumption, by assumption, by assumption, by assumption⟩
  k_with "measure" => exact row_less hW.1 (by assumption)
  k_with "exec While Compare cons nil" => (k_while (fun _ n xs => 0 ≤ n ∧ xs.length ≤ 300 ∧ RowS W x n xs) (fun _ n xs => n.toNat) "number" "found")
  repeat' (first | (first | ((with_reducible show wpAny _ _ (execs (_ :: _) _) _ _ _); walk1; refine wp_abs ?_; intro _ _; (try dsimp only)) | ((with_reducible refine use_abs (α := Flow) (by with_reducible assumption) ?_); (try (rename ∀ (_ : Flow) (_ : Shared), _ → _ => z9; clear z9)); (try (rename Flow → Shared → Prop => z8; clear z8)); (try dsimp only)) | (k_unfold; (try dsimp only)) | (k_end; kc_close) | walk1 | (dsimp only; walk1) | (leave1; (try dsimp only))))
  all_goals (try dsimp only)
  refine' ret _ _ _ (Fr.keep (by assumption)) (Exists.intro ?xs1 (And.intro ?ro1 ?lo1))
  case lo1 => (first | exact LOut.mk (by assumption) (by k_mem) (by assumption) | exact LOut.mkNil (by assumption) (by k_mem) | exact LOut.mkPush (by assumption) (by k_mem) (by assumption))
  case ro1 => exact row_end (by assumption) ⟨by assumption, by assumption, by assumption⟩ (by assumption)

end FRow
section FNum
theorem fill_FNum : PySem.Challenge.rw_nn0009_01.prog = PySem.Challenge.rw_nn0009_01.prog ∧ hd.heap_39 = hd.heap_39 := by
  w_top off
  k_fill
  exact ⟨rfl, rfl⟩
section
variable {prog : Program} {w : World} {A : Around} {E : Value → Shared → Prop} {s : Shared} {env : Env} {h₀ : Heap} {x : Str} {body : List Stmt} {Q : Flow → Shared → Prop}
/-- a loop over a reversed list of the base that turns one int -/
theorem rev_inv1 {l I : Addr} {vs : List Value} {ns : List Int} {m₀ : Str → Option Value} {y : Str} {a₀ : Int} {t₀ : Tok} (P : Nat → Int → Prop)
    (hh : A.handled = none) (hl : h₀.IsList l vs.toArray) (hi : IntsAre vs ns) (F : Fr h₀ env.locals s.heap m₀) (N : News h₀ env.locals s.heap [(I, revObj l ((vs.length : Int) - 1))]) (hy : m₀ y = some (.int a₀ t₀)) (hyx : y ≠ x) (hp : P 0 a₀)
    (turn : ∀ (i : Nat) n t a ta h tk own, i < ns.length → n = ns.getD (ns.length - 1 - i) 0 → P i a → Fr h₀ env.locals h (fun z => if z = x then some (.int n t) else if z = y then some (.int a ta) else m₀ z) → News h₀ env.locals h own →
      wpAny (model prog w) A (execs body env) (InvPostN h₀ env.locals (fun m' nx => nx = [] ∧ (∃ a' t', m' y = some (.int a' t') ∧ P (i + 1) a') ∧ ∀ z, z ≠ x → z ≠ y → m' z = m₀ z) own [] { s with heap := h, toks := tk } Q) E { s with heap := h, toks := tk })
    (done : ∀ (u : Str → Option Value) a t h tk, P ns.length a → Fr h₀ env.locals h (fun z => if z = x then u z else if z = y then some (.int a t) else m₀ z) → News h₀ env.locals h [] → Q .next { s with heap := h, toks := tk }) :
    wpAny (model prog w) A (pyIter (.ref I)) (fun it s₂ => LoopAtV prog w A h₀ env x body Q E it s₂) E s := by
  have hIx := N _ (List.mem_cons_self ..)
  have hls : s.heap.IsList l vs.toArray := hl.at fun o e => F.keep l o e
  obtain ⟨ol, hol, _⟩ := id hl
  have hne : l ≠ I := fun e => by rw [e, hIx.2.2] at hol; cases hol
  have hLl : env.locals ≠ l := fun e => absurd (Nat.lt_of_lt_of_le (Heap.lt_size hol) F.above) (e ▸ Nat.lt_irrefl _)
  have hit : s.heap.IsRevIter I l ((vs.length : Int) - 1) := ⟨_, hIx.1, rfl, rfl⟩
  refine wpAny_pyIter_revIter hit ?_
  have W := Walks.listRev (prog := prog) (w := w) hh I l hne vs.toArray
  have hlen : vs.toArray.size = ns.length := by simp [hi.length]
  rw [hlen] at W
  refine loop_invN (news := []) (fun i m nx => nx = [] ∧ (∃ a t, m y = some (.int a t) ∧ P i a) ∧ ∀ z, z ≠ x → z ≠ y → m z = m₀ z) W ?_ ?_ (fun _ h => nomatch h) (fun _ h => nomatch h) ⟨Nat.zero_le _, ?_, hls⟩ F (fun _ h => nomatch h) ⟨rfl, ⟨a₀, t₀, hy, hp⟩, fun _ _ _ => rfl⟩ ?_ ?_
  · intro hm
    rcases List.mem_cons.mp hm with e | hm
    · exact hIx.2.1 e.symm
    · exact hLl (List.mem_singleton.mp hm)
  · intro b hb
    rw [List.mem_singleton.mp hb]
    exact hIx.2.2
  · have e : (ns.length : Int) - 1 - ((0 : Nat) : Int) = (vs.length : Int) - 1 := by rw [← hlen]; simp
    rw [e]
    exact hit
  · rintro i v m₁ nx h tk own hin hP _ _ ⟨rfl, ⟨a, ta, ha, hpa⟩, hm⟩ F₁ N₁
    obtain ⟨t, hx⟩ := hi.get (ns.length - 1 - i) (ns[ns.length - 1 - i]'(by omega)) (by simp [show ns.length - 1 - i < ns.length by omega])
    have hv : v = .int (ns[ns.length - 1 - i]'(by omega)) t := by
      have hP' : vs[ns.length - 1 - i]? = some v := by
        have := hP
        simpa [hi.length] using this
      rw [hx] at hP'
      exact (Option.some.inj hP').symm
    subst hv
    have e : (fun z => if z = x then some (Value.int (ns[ns.length - 1 - i]'(by omega)) t) else m₁ z) = fun z => if z = x then some (Value.int (ns[ns.length - 1 - i]'(by omega)) t) else if z = y then some (Value.int a ta) else m₀ z := by
      funext z
      by_cases h1 : z = x
      · simp [h1]
      · simp only [if_neg h1]
        by_cases h2 : z = y
        · subst h2; simp [ha]
        · simp only [if_neg h2]; exact hm z h1 h2
    rw [e] at F₁
    exact turn i _ t a ta h tk own hin (by rw [List.getD_eq_getElem?_getD, List.getElem?_eq_getElem (by omega)]; rfl) hpa F₁ (by simpa using N₁)
  · rintro m₁ nx h tk ⟨rfl, ⟨a, t, ha, hpa⟩, hm⟩ F₁ N₁
    refine done m₁ a t h tk hpa ?_ N₁
    have e : (fun z => if z = x then m₁ z else if z = y then some (Value.int a t) else m₀ z) = m₁ := by
      funext z
      by_cases h1 : z = x
      · simp [h1]
      · simp only [if_neg h1]
        by_cases h2 : z = y
        · subst h2; simp [ha]
        · simp only [if_neg h2]; exact (hm z h1 h2).symm
    rw [e]; exact F₁
end
theorem num_step {B : Int} {na : List Int} {i : Nat} {a n : Int} (hi : i < na.length) (hn : n = na.getD (na.length - 1 - i) 0) (h : a = val B (na.drop (na.length - i))) : a * B + n = val B (na.drop (na.length - (i + 1))) := by
  have e : na.drop (na.length - (i + 1)) = n :: na.drop (na.length - i) := by
    rw [hn, List.getD_eq_getElem?_getD, List.drop_eq_getElem_cons (by omega)]
    rw [show na.length - 1 - i = na.length - (i + 1) by omega, List.getElem?_eq_getElem (by omega), show na.length - (i + 1) + 1 = na.length - i by omega]
    rfl
  rw [e, val_cons, h]; grind
theorem num_fn (w : World) (g : Heap) (W : Int) (tw : Tok) (hW : 2 ≤ W ∧ W ≤ 9) (la : Addr) (va : List Value) (na : List Int) (x : Int) (hl : g.IsList la va.toArray) (hi : IntsAre va na) (hs : na.length ≤ 300) (R : Row (bs W) na x) :
    Fn 1 w 177 [.ref la, .int W tw] g (fun v _ => ∃ i t, i = x ∧ v = .int i t) := by
  with_unfolding_all refine' enter2 ?k6 ?k7 ?k9 ?kB ?c5 ?c2 ?c3 ?c4 ?_
  case k6 => k_is
  case k7 => k_is
  case k9 => intro s; exact BindsTo.of_eq rfl
  case kB => exact locs rfl
  case c5 => decide
  case c2 => exact rfl
  case c3 => exact rfl
  case c4 => exact rfl
  dsimp only [fnOf]
  intro dp un gd outer base A₀ p loose mean mg mb L' h₁ gn dr tk os Q' hdp hun B' X' T' F' N' ret
  repeat' (first | (first | ((with_reducible show wpAny _ _ (execs (_ :: _) _) _ _ _); walk1; refine wp_abs ?_; intro _ _; (try dsimp only)) | ((with_reducible refine use_abs (α := Flow) (by with_reducible assumption) ?_); (try (rename ∀ (_ : Flow) (_ : Shared), _ → _ => z9; clear z9)); (try (rename Flow → Shared → Prop => z8; clear z8)); (try dsimp only)) | (k_unfold; (try dsimp only)) | (k_end; kc_close) | walk1 | (dsimp only; walk1) | (leave1; (try dsimp only))))
  all_goals (try dsimp only)
  rename_i F9 N9 _
  with_unfolding_all refine' rev_inv1 (y := Str.ofString "found") (fun i a => a = val (bs W) (na.drop (na.length - i))) rfl hl hi F9 N9 rfl (by decide) (by simp [val]) ?_ ?_
  · clear F9 N9
    intro i n t a ta h tk own hin hn hP F9 N9
    have hpW := pow_bits hW
    repeat' (first | (first | ((with_reducible show wpAny _ _ (execs (_ :: _) _) _ _ _); walk1; refine wp_abs ?_; intro _ _; (try dsimp only)) | ((with_reducible refine use_abs (α := Flow) (by with_reducible assumption) ?_); (try (rename ∀ (_ : Flow) (_ : Shared), _ → _ => z9; clear z9)); (try (rename Flow → Shared → Prop => z8; clear z8)); (try dsimp only)) | (k_unfold; (try dsimp only)) | (k_end; kc_close) | walk1 | (dsimp only; walk1) | (leave1; (try dsimp only))))
    refine' InvEndN.intro (by assumption) (by assumption) ⟨rfl, ⟨_, _, rfl, num_step hin hn hP⟩, fun z h1 h2 => ?_⟩ rfl (fun _ h => nomatch h) (by first | exact fun p hp => hp | (intro p hp; k_ownIn))
    simp [h1, h2]
  · clear F9 N9
    intro u a t h tk hP F9 N9
    repeat' (first | (first | ((with_reducible show wpAny _ _ (execs (_ :: _) _) _ _ _); walk1; refine wp_abs ?_; intro _ _; (try dsimp only)) | ((with_reducible refine use_abs (α := Flow) (by with_reducible assumption) ?_); (try (rename ∀ (_ : Flow) (_ : Shared), _ → _ => z9; clear z9)); (try (rename Flow → Shared → Prop => z8; clear z8)); (try dsimp only)) | (k_unfold; (try dsimp only)) | (k_end; kc_close) | walk1 | (dsimp only; walk1) | (leave1; (try dsimp only))))
    all_goals (try dsimp only)
    exact ret _ _ _ (Fr.keep F9) ⟨_, _, by rw [hP, Nat.sub_self, List.drop_zero, R.val], rfl⟩

end FNum
section FLift
theorem fill_FLift : PySem.Challenge.rw_nn0009_01.prog = PySem.Challenge.rw_nn0009_01.prog ∧ hd.heap_39 = hd.heap_39 := by
  w_top off
  k_fill
  exact ⟨rfl, rfl⟩
theorem nil_of {xs : List Int} (h : ¬ 0 < xs.length) : xs = [] := List.length_eq_zero_iff.mp (by omega)
theorem lift_end {B x k : Int} (hB : 0 < B) {na : List Int} (R : Row B na x) (h : 0 < (na.length : Int)) (hk : 0 ≤ k) : Row B ((List.replicate k.toNat [0]).flatten ++ na) (B ^ k.toNat * x) ∧ ((List.replicate k.toNat [0]).flatten ++ na).length ≤ k.toNat + na.length := by
  rw [List.flatten_replicate_singleton]
  refine ⟨R.shift hB _ (fun e => ?_), by simp⟩
  subst e; exact absurd h (by decide)
theorem lift_end0 {B x k : Int} {na : List Int} (R : Row B na x) (h : ¬ 0 < (na.length : Int)) : Row B [] (B ^ k.toNat * x) ∧ ([] : List Int).length ≤ k.toNat + na.length := by
  have e : na = [] := nil_of (by omega)
  subst e
  have : x = 0 := R.val.symm
  subst this
  rw [Int.mul_zero]
  exact ⟨Row.nil, by simp⟩
theorem lifted_fn (w : World) (g : Heap) (W : Int) (tw : Tok) (hW : 2 ≤ W ∧ W ≤ 9) (la : Addr) (va : List Value) (na : List Int) (x : Int) (hl : g.IsList la va.toArray) (hi : IntsAre va na) (hs : na.length ≤ 300) (R : Row (bs W) na x) (k : Int) (tk : Tok) (hk : 0 ≤ k ∧ k ≤ 100) :
    Fn 1 w 86 [.ref la, .int k tk] g (fun v h' => ∃ xs, (Row (bs W) xs (bs W ^ k.toNat * x) ∧ xs.length ≤ k.toNat + na.length) ∧ LOut g xs v h') := by
  with_unfolding_all refine' enter2 ?k6 ?k7 ?k9 ?kB ?c5 ?c2 ?c3 ?c4 ?_
  case k6 => k_is
  case k7 => k_is
  case k9 => intro s; exact BindsTo.of_eq rfl
  case kB => exact locs rfl
  case c5 => decide
  case c2 => exact rfl
  case c3 => exact rfl
  case c4 => exact rfl
  dsimp only [fnOf]
  intro dp un gd outer base A₀ p loose mean mg mb L' h₁ gn dr tk os Q' hdp hun B' X' T' F' N' ret
  repeat' (first | (first | ((with_reducible show wpAny _ _ (execs (_ :: _) _) _ _ _); walk1; refine wp_abs ?_; intro _ _; (try dsimp only)) | ((with_reducible refine use_abs (α := Flow) (by with_reducible assumption) ?_); (try (rename ∀ (_ : Flow) (_ : Shared), _ → _ => z9; clear z9)); (try (rename Flow → Shared → Prop => z8; clear z8)); (try dsimp only)) | (k_unfold; (try dsimp only)) | (k_end; kc_close) | walk1 | (dsimp only; walk1) | (leave1; (try dsimp only))))
  all_goals (try dsimp only)
  · refine' ret _ _ _ (Fr.keep (by assumption)) (Exists.intro ?xs1 (And.intro ?ro1 ?lo1))
    case lo1 => (first | exact LOut.mk (by assumption) (by k_mem) (by assumption) | exact LOut.mkNil (by assumption) (by k_mem) | exact LOut.mkPush (by assumption) (by k_mem) (by assumption))
    case ro1 => exact lift_end (bs_pos W) R (by assumption) hk.1
  · refine' ret _ _ _ (Fr.keep (by assumption)) (Exists.intro ?xs2 (And.intro ?ro2 ?lo2))
    case lo2 => (first | exact LOut.mk (by assumption) (by k_mem) (by assumption) | exact LOut.mkNil (by assumption) (by k_mem) | exact LOut.mkPush (by assumption) (by k_mem) (by assumption))
    case ro2 => exact lift_end0 R (by assumption)

end FLift
section FPiece
theorem fill_FPiece : PySem.Challenge.rw_nn0009_01.prog = PySem.Challenge.rw_nn0009_01.prog ∧ hd.heap_39 = hd.heap_39 := by
  w_top off
  k_fill
  exact ⟨rfl, rfl⟩
theorem piece_end {B x k k2 : Int} (hB : 0 < B) {na xs : List Int} (R : Row B na x) (hk : 0 ≤ k ∧ k ≤ k2 ∧ k2 ≤ 300) (h : Row B xs (val B (List.take (min k2.toNat na.length - k.toNat) (List.drop k.toNat na)))) :
    Row B xs (x / B ^ k.toNat % B ^ (k2 - k).toNat) ∧ xs.length ≤ (k2 - k).toNat := by
  have e : List.take (min k2.toNat na.length - k.toNat) (List.drop k.toNat na) = List.take (k2 - k).toNat (List.drop k.toNat na) := by
    rcases Nat.le_total k2.toNat na.length with h1 | h1
    · congr 1; omega
    · rw [List.take_of_length_le (by rw [List.length_drop]; omega), List.take_of_length_le (by rw [List.length_drop]; omega)]
  rw [e, ((R.drop hB k.toNat).take hB (k2 - k).toNat).2] at h
  exact ⟨h, h.len_le hB (Int.emod_lt_of_pos _ (pow_pos hB _))⟩
theorem piece_fn (w : World) (g : Heap) (W : Int) (tw : Tok) (hW : 2 ≤ W ∧ W ≤ 9) (la : Addr) (va : List Value) (na : List Int) (x : Int) (hl : g.IsList la va.toArray) (hi : IntsAre va na) (hs : na.length ≤ 300) (R : Row (bs W) na x) (k : Int) (tk : Tok) (k2 : Int) (tk2 : Tok) (hk : 0 ≤ k ∧ k ≤ k2 ∧ k2 ≤ 300) :
    Fn 2 w 121 [.ref la, .int k tk, .int k2 tk2] g (fun v h' => ∃ xs, (Row (bs W) xs (x / bs W ^ k.toNat % bs W ^ (k2 - k).toNat) ∧ xs.length ≤ (k2 - k).toNat) ∧ LOut g xs v h') := by
  with_unfolding_all refine' enter2 ?k6 ?k7 ?k9 ?kB ?c5 ?c2 ?c3 ?c4 ?_
  case k6 => k_is
  case k7 => k_is
  case k9 => intro s; exact BindsTo.of_eq rfl
  case kB => exact locs rfl
  case c5 => decide
  case c2 => exact rfl
  case c3 => exact rfl
  case c4 => exact rfl
  dsimp only [fnOf]
  intro dp un gd outer base A₀ p loose mean mg mb L' h₁ gn dr tk os Q' hdp hun B' X' T' F' N' ret
  repeat' (first | (k_here; (with_reducible show wpAny _ _ (call (Value.ref 58) _ _) _ _ _); k_dflt ((with_unfolding_all refine' callL (normal_fn _ _ _ ?hB _ _ _ ?hl ?hi ?hs ?hLim) ?kB ?kF ?kX ?kN ?kT ?kA ?kf ?kk ?k1 ?k2 ?k3 ?_); (case hl => (first | (with_reducible assumption) | assumption | exact Fr.lst (by assumption) (by assumption) | exact News.isL (by assumption) (by k_mem) | exact News.isLp (by assumption) (by k_mem) | exact News.isL0 (by assumption) (by k_mem) | exact ArgLst.at' (by assumption) (by assumption) (by assumption) (by assumption) (by ((intro p9 hp9; repeat (first | exact hp9 | refine List.Mem.tail _ ?_)))) | exact NewLst.at' (by assumption) (by assumption) (by ((intro p9 hp9; repeat (first | exact hp9 | refine List.Mem.tail _ ?_)))) | exact IsLst.at' (by assumption) (by assumption) (by assumption) (by ((intro p9 hp9; repeat (first | exact hp9 | refine List.Mem.tail _ ?_)))))); (case hi => (first | assumption | exact IntsAre.nil | exact .cons _ _ .nil | exact IntsAre.append (by assumption) (.cons _ _ .nil))); (case hs => (first | assumption | omega | (have e := ‹_ = (rangeKs _ _).length›; rw [rangeKs_length] at e; omega) | (simp only [List.length_append, List.length_cons, List.length_nil, List.length_replicate, List.length_take, List.length_drop]; omega))); (case hLim => (first | assumption | exact Lim.take (Lim.drop (Row.lim (by assumption)) _) _)); (case hB => exact bs_pos _); (case kB => k_asm); (case kF => k_asm); (case kX => k_asm); (case kN => k_asm); (case kT => k_asm); (case kA => exact rfl); (case kf => exact rfl); (case kk => exact rfl); (case k1 => ktr_room); (case k2 => ktr_units); (case k3 => exact rfl); k_whole; intro la9 va9 n9 xs9 h9 tk9 F9 N9 ne9 hi9 hp9; (try dsimp only); (try k_fold))) | (first | ((with_reducible show wpAny _ _ (execs (_ :: _) _) _ _ _); walk1; refine wp_abs ?_; intro _ _; (try dsimp only)) | ((with_reducible refine use_abs (α := Flow) (by with_reducible assumption) ?_); (try (rename ∀ (_ : Flow) (_ : Shared), _ → _ => z9; clear z9)); (try (rename Flow → Shared → Prop => z8; clear z8)); (try dsimp only)) | (k_unfold; (try dsimp only)) | (k_end; kc_close) | walk1 | (dsimp only; walk1) | (leave1; (try dsimp only))))
  all_goals (try dsimp only)
  refine' ret _ _ _ (Fr.keep (by assumption)) (Exists.intro ?xs1 (And.intro ?ro1 ?lo1))
  case lo1 => (first | exact LOut.mk (by assumption) (by k_mem) (by assumption) | exact LOut.mkNil (by assumption) (by k_mem) | exact LOut.mkPush (by assumption) (by k_mem) (by assumption))
  case ro1 => exact piece_end (bs_pos W) R hk (by assumption)

end FPiece
section FSub
theorem fill_FSub : PySem.Challenge.rw_nn0009_01.prog = PySem.Challenge.rw_nn0009_01.prog ∧ hd.heap_39 = hd.heap_39 := by
  w_top off
  k_fill
  exact ⟨rfl, rfl⟩
/-- the state of sub's loop -/
def SubS (B : Int) (na nb : List Int) (i : Nat) (c : Int) (xs : List Int) : Prop :=
  Lim B xs ∧ xs.length = i ∧ 0 ≤ c ∧ c ≤ 1 ∧ val B xs + val B (nb.take i) = val B (na.take i) + B ^ i * c
theorem SubS.start {B : Int} {na nb : List Int} : SubS B na nb 0 0 [] := ⟨.nil, rfl, by decide, by decide, by simp [val]⟩
theorem SubS.step1 {B : Int} (hB : 0 < B) {na nb xs : List Int} {i : Nat} {c d : Int} (ha : Lim B na) (hb : Lim B nb) (S : SubS B na nb i c xs) (hd : d = nb.getD i 0) (h : na.getD i 0 - c - d < 0) :
    SubS B na nb (i + 1) 1 (xs ++ [na.getD i 0 - c - d + B]) := by
  subst hd
  obtain ⟨h1, h2, h3, h4, h5⟩ := S
  have a := ha.getD hB i
  have b := hb.getD hB i
  refine ⟨h1.snoc (by omega), by rw [List.length_append, h2]; rfl, by omega, by omega, ?_⟩
  rw [val_append, h2, val_take_succ, val_take_succ, val_cons, val_nil, Int.pow_succ]
  grind
theorem SubS.step0 {B : Int} (hB : 0 < B) {na nb xs : List Int} {i : Nat} {c d : Int} (ha : Lim B na) (hb : Lim B nb) (S : SubS B na nb i c xs) (hd : d = nb.getD i 0) (h : ¬ na.getD i 0 - c - d < 0) :
    SubS B na nb (i + 1) 0 (xs ++ [na.getD i 0 - c - d]) := by
  subst hd
  obtain ⟨h1, h2, h3, h4, h5⟩ := S
  have a := ha.getD hB i
  have b := hb.getD hB i
  refine ⟨h1.snoc (by omega), by rw [List.length_append, h2]; rfl, by omega, by omega, ?_⟩
  rw [val_append, h2, val_take_succ, val_take_succ, val_cons, val_nil, Int.pow_succ]
  grind
theorem SubS.done {B x y c : Int} (hB : 0 < B) {na nb xs : List Int} (R : Row B na x) (T : Row B nb y) (hl : nb.length ≤ na.length) (hxy : y ≤ x) (S : SubS B na nb na.length c xs) : Lim B xs ∧ val B xs = x - y := by
  obtain ⟨h1, h2, h3, h4, h5⟩ := S
  rw [val_take_all B (Nat.le_refl _), val_take_all B hl, R.val, T.val] at h5
  have h6 := val_lt hB h1
  rw [h2] at h6
  have : c = 0 := by
    rcases (show c = 0 ∨ c = 1 by omega) with e | e
    · exact e
    · subst e; omega
  subst this
  exact ⟨h1, by omega⟩
theorem getD_none {xs : List Int} {k : Int} (h : ¬ k < (xs.length : Int)) : (0 : Int) = xs.getD k.toNat 0 := by
  rw [List.getD_eq_getElem?_getD, List.getElem?_eq_none (by omega)]; rfl
theorem sub_t1 {W : Int} {a b pre xs : List Int} {c k d : Int} (ha : Lim (bs W) a) (hb : Lim (bs W) b) (P1 : xs.length = pre.length) (P : SubS (bs W) a b xs.length c xs) (hk : k = 0 + (pre.length : Int)) (hd : d = b.getD k.toNat 0) (h : a.getD k.toNat 0 - c - d < 0) :
    (xs ++ [a.getD k.toNat 0 - c - d + 1 * 2 ^ W.toNat]).length = (pre ++ [k]).length ∧ SubS (bs W) a b (xs ++ [a.getD k.toNat 0 - c - d + 1 * 2 ^ W.toNat]).length 1 (xs ++ [a.getD k.toNat 0 - c - d + 1 * 2 ^ W.toNat]) := by
  have e : k.toNat = xs.length := by omega
  rw [e] at hd h ⊢
  rw [Int.one_mul]
  refine ⟨by simp [P1], ?_⟩
  rw [List.length_append, List.length_singleton]
  exact P.step1 (bs_pos W) ha hb hd h
theorem sub_t0 {B : Int} (hB : 0 < B) {a b pre xs : List Int} {c k d : Int} (ha : Lim B a) (hb : Lim B b) (P1 : xs.length = pre.length) (P : SubS B a b xs.length c xs) (hk : k = 0 + (pre.length : Int)) (hd : d = b.getD k.toNat 0) (h : ¬ a.getD k.toNat 0 - c - d < 0) :
    (xs ++ [a.getD k.toNat 0 - c - d]).length = (pre ++ [k]).length ∧ SubS B a b (xs ++ [a.getD k.toNat 0 - c - d]).length 0 (xs ++ [a.getD k.toNat 0 - c - d]) := by
  have e : k.toNat = xs.length := by omega
  rw [e] at hd h ⊢
  refine ⟨by simp [P1], ?_⟩
  rw [List.length_append, List.length_singleton]
  exact P.step0 hB ha hb hd h
theorem sub_end {B x y c : Int} (hB : 0 < B) {na nb xs ys : List Int} (R : Row B na x) (T : Row B nb y) (hl : nb.length ≤ na.length) (hxy : y ≤ x) (e : ys.length = (rangeKs 0 ((na.length : Int) - 0).toNat).length) (S : SubS B na nb ys.length c ys) (hp : Row B xs (val B ys)) :
    Row B xs (x - y) ∧ xs.length ≤ na.length := by
  rw [rangeKs_length] at e
  rw [show ys.length = na.length by omega] at S
  rw [(S.done hB R T hl hxy).2] at hp
  have := T.nonneg hB
  exact ⟨hp, hp.len_mono hB R (by omega)⟩
theorem sub_fn (w : World) (g : Heap) (W : Int) (tw : Tok) (hW : 2 ≤ W ∧ W ≤ 9) (la : Addr) (va : List Value) (na : List Int) (x : Int) (hl : g.IsList la va.toArray) (hi : IntsAre va na) (hs : na.length ≤ 300) (R : Row (bs W) na x)
    (lb : Addr) (vb : List Value) (nb : List Int) (y : Int) (hlb : g.IsList lb vb.toArray) (hib : IntsAre vb nb) (hsb : nb.length ≤ 300) (S : Row (bs W) nb y) (hxy : y ≤ x) :
    Fn 2 w 79 [.ref la, .ref lb, .int W tw] g (fun v h' => ∃ xs, (Row (bs W) xs (x - y) ∧ xs.length ≤ na.length) ∧ LOut g xs v h') := by
  with_unfolding_all refine' enter2 ?k6 ?k7 ?k9 ?kB ?c5 ?c2 ?c3 ?c4 ?_
  case k6 => k_is
  case k7 => k_is
  case k9 => intro s; exact BindsTo.of_eq rfl
  case kB => exact locs rfl
  case c5 => decide
  case c2 => exact rfl
  case c3 => exact rfl
  case c4 => exact rfl
  dsimp only [fnOf]
  intro dp un gd outer base A₀ p loose mean mg mb L' h₁ gn dr tk os Q' hdp hun B' X' T' F' N' ret
  have hLa := R.lim
  have hLb := S.lim
  have hlen := S.len_mono (bs_pos W) R hxy
  k_with "state" => first | exact ⟨rfl, SubS.start⟩ | exact sub_t1 hLa hLb (by assumption) (by assumption) (by assumption) rfl (by assumption) | exact sub_t0 (bs_pos W) hLa hLb (by assumption) (by assumption) (by assumption) rfl (by assumption) | exact sub_t1 hLa hLb (by assumption) (by assumption) (by assumption) (getD_none (by assumption)) (by assumption) | exact sub_t0 (bs_pos W) hLa hLb (by assumption) (by assumption) (by assumption) (getD_none (by assumption)) (by assumption)
  k_with "pyIter ref" => (k_state (fun pre c xs => xs.length = pre.length ∧ SubS (bs W) na nb xs.length c xs) "borrow" "found")
  repeat' (first | (k_here; (with_reducible show wpAny _ _ (call (Value.ref 58) _ _) _ _ _); k_dflt ((with_unfolding_all refine' callL (normal_fn _ _ _ ?hB _ _ _ ?hl ?hi ?hs ?hLim) ?kB ?kF ?kX ?kN ?kT ?kA ?kf ?kk ?k1 ?k2 ?k3 ?_); (case hl => (first | (with_reducible assumption) | assumption | exact Fr.lst (by assumption) (by assumption) | exact News.isL (by assumption) (by k_mem) | exact News.isLp (by assumption) (by k_mem) | exact News.isL0 (by assumption) (by k_mem) | exact ArgLst.at' (by assumption) (by assumption) (by assumption) (by assumption) (by ((intro p9 hp9; repeat (first | exact hp9 | refine List.Mem.tail _ ?_)))) | exact NewLst.at' (by assumption) (by assumption) (by ((intro p9 hp9; repeat (first | exact hp9 | refine List.Mem.tail _ ?_)))) | exact IsLst.at' (by assumption) (by assumption) (by assumption) (by ((intro p9 hp9; repeat (first | exact hp9 | refine List.Mem.tail _ ?_)))))); (case hi => (first | assumption | exact IntsAre.nil | exact .cons _ _ .nil | exact IntsAre.append (by assumption) (.cons _ _ .nil))); (case hs => (first | assumption | omega | (have e := ‹_ = (rangeKs _ _).length›; rw [rangeKs_length] at e; omega) | (simp only [List.length_append, List.length_cons, List.length_nil, List.length_replicate, List.length_take, List.length_drop]; omega))); (case hLim => (first | (exact (‹SubS _ _ _ _ _ _›).1) | (first | assumption | exact Lim.take (Lim.drop (Row.lim (by assumption)) _) _))); (case hB => exact bs_pos _); (case kB => k_asm); (case kF => k_asm); (case kX => k_asm); (case kN => k_asm); (case kT => k_asm); (case kA => exact rfl); (case kf => exact rfl); (case kk => exact rfl); (case k1 => ktr_room); (case k2 => ktr_units); (case k3 => exact rfl); k_whole; intro la9 va9 n9 xs9 h9 tk9 F9 N9 ne9 hi9 hp9; (try dsimp only); (try k_fold))) | (k_here; (with_reducible show wpAny _ _ (call (Value.ref 65) _ _) _ _ _); k_dflt ((with_unfolding_all refine' callI (compare_fn _ _ _ ?hB _ _ _ _ ?hl ?hi ?hs ?R _ _ _ _ ?hlb ?hib ?hsb ?S) ?kB ?kF ?kX ?kN ?kT ?kA ?kf ?kk ?k1 ?k2 ?k3 ?_); (case hl => (first | (with_reducible assumption) | assumption | exact Fr.lst (by assumption) (by assumption) | exact News.isL (by assumption) (by k_mem) | exact News.isLp (by assumption) (by k_mem) | exact News.isL0 (by assumption) (by k_mem) | exact ArgLst.at' (by assumption) (by assumption) (by assumption) (by assumption) (by ((intro p9 hp9; repeat (first | exact hp9 | refine List.Mem.tail _ ?_)))) | exact NewLst.at' (by assumption) (by assumption) (by ((intro p9 hp9; repeat (first | exact hp9 | refine List.Mem.tail _ ?_)))) | exact IsLst.at' (by assumption) (by assumption) (by assumption) (by ((intro p9 hp9; repeat (first | exact hp9 | refine List.Mem.tail _ ?_)))))); (case hi => (first | assumption | exact IntsAre.nil | exact .cons _ _ .nil | exact IntsAre.append (by assumption) (.cons _ _ .nil))); (case hs => (first | assumption | omega | (have e := ‹_ = (rangeKs _ _).length›; rw [rangeKs_length] at e; omega) | (simp only [List.length_append, List.length_cons, List.length_nil, List.length_replicate, List.length_take, List.length_drop]; omega))); (case R => (assumption)); (case hlb => (first | (with_reducible assumption) | assumption | exact Fr.lst (by assumption) (by assumption) | exact News.isL (by assumption) (by k_mem) | exact News.isLp (by assumption) (by k_mem) | exact News.isL0 (by assumption) (by k_mem) | exact ArgLst.at' (by assumption) (by assumption) (by assumption) (by assumption) (by ((intro p9 hp9; repeat (first | exact hp9 | refine List.Mem.tail _ ?_)))) | exact NewLst.at' (by assumption) (by assumption) (by ((intro p9 hp9; repeat (first | exact hp9 | refine List.Mem.tail _ ?_)))) | exact IsLst.at' (by assumption) (by assumption) (by assumption) (by ((intro p9 hp9; repeat (first | exact hp9 | refine List.Mem.tail _ ?_)))))); (case hib => (first | assumption | exact IntsAre.nil | exact .cons _ _ .nil | exact IntsAre.append (by assumption) (.cons _ _ .nil))); (case hsb => (first | assumption | omega | (have e := ‹_ = (rangeKs _ _).length›; rw [rangeKs_length] at e; omega) | (simp only [List.length_append, List.length_cons, List.length_nil, List.length_replicate, List.length_take, List.length_drop]; omega))); (case S => (assumption)); (case hB => exact bs_pos _); (case kB => k_asm); (case kF => k_asm); (case kX => k_asm); (case kN => k_asm); (case kT => k_asm); (case kA => exact rfl); (case kf => exact rfl); (case kk => exact rfl); (case k1 => ktr_room); (case k2 => ktr_units); (case k3 => exact rfl); k_whole; intro i9 t9 h9 tk9 F9 N9 hp9; have hc9 := cmp_facts hp9; (try dsimp only); (try k_fold))) | (first | ((with_reducible show wpAny _ _ (execs (_ :: _) _) _ _ _); walk1; refine wp_abs ?_; intro _ _; (try dsimp only)) | ((with_reducible refine use_abs (α := Flow) (by with_reducible assumption) ?_); (try (rename ∀ (_ : Flow) (_ : Shared), _ → _ => z9; clear z9)); (try (rename Flow → Shared → Prop => z8; clear z8)); (try dsimp only)) | (k_unfold; (try dsimp only)) | (k_end; kc_close) | walk1 | (dsimp only; walk1) | (leave1; (try dsimp only))))
  all_goals (try dsimp only)
  refine' ret _ _ _ (Fr.keep (by assumption)) (Exists.intro ?xs1 (And.intro ?ro1 ?lo1))
  case lo1 => (first | exact LOut.mk (by assumption) (by k_mem) (by assumption) | exact LOut.mkNil (by assumption) (by k_mem) | exact LOut.mkPush (by assumption) (by k_mem) (by assumption))
  case ro1 => exact sub_end (bs_pos W) R S hlen hxy (by assumption) (by assumption) (by assumption)

end FSub
section FAddAt
theorem fill_FAddAt : PySem.Challenge.rw_nn0009_01.prog = PySem.Challenge.rw_nn0009_01.prog ∧ hd.heap_39 = hd.heap_39 := by
  w_top off
  k_fill
  exact ⟨rfl, rfl⟩
theorem at_end0 {B x y k : Int} {na nb : List Int} (R : Row B na x) (S : Row B nb y) (h : (nb.length : Int) = 0) : Row B na (x + B ^ k.toNat * y) := by
  have e : nb = [] := List.length_eq_zero_iff.mp (by omega)
  subst e
  have : y = 0 := S.val.symm
  subst this
  rw [Int.mul_zero, Int.add_zero]; exact R
theorem at_end1 {B x y k : Int} (hB : 0 < B) {na nb : List Int} (R : Row B na x) (S : Row B nb y) (h : (nb.length : Int) ≠ 0) (hk : (na.length : Int) ≤ k) : Row B (na ++ (List.replicate (k - (na.length : Int)).toNat [0]).flatten ++ nb) (x + B ^ k.toNat * y) := by
  have e : nb ≠ [] := fun e => h (by rw [e]; rfl)
  rw [List.flatten_replicate_singleton]
  have := S.above hB (R.lim.append (Lim.replicate hB (k - (na.length : Int)).toNat)) e
  rw [val_append, val_replicate, R.val, List.length_append, List.length_replicate, show na.length + (k - (na.length : Int)).toNat = k.toNat by omega, Int.mul_zero, Int.add_zero] at this
  exact this
theorem at_end2 {B x y k : Int} (hB : 0 < B) {na nb xs : List Int} (R : Row B na x) (S : Row B nb y) (h : (nb.length : Int) ≠ 0) (hk : ¬ (na.length : Int) ≤ k) (hk0 : 0 ≤ k) (hx : Row B xs (x / B ^ k.toNat + y)) : Row B (List.take k.toNat na ++ xs) (x + B ^ k.toNat * y) := by
  have e : nb ≠ [] := fun e => h (by rw [e]; rfl)
  have y0 := S.pos_of hB e
  have x0 := (R.drop hB k.toNat).nonneg hB
  have e2 : xs ≠ [] := fun e2 => by rw [hx.nil_iff hB] at e2; omega
  have := hx.above hB (R.lim.take k.toNat) e2
  rw [(R.take hB k.toNat).2, List.length_take, Nat.min_eq_left (by omega), Int.mul_add, ← Int.add_assoc, Int.emod_add_mul_ediv] at this
  exact this
theorem add_at_fn (w : World) (g : Heap) (W : Int) (tw : Tok) (hW : 2 ≤ W ∧ W ≤ 9) (la : Addr) (va : List Value) (na : List Int) (x : Int) (hl : g.IsList la va.toArray) (hi : IntsAre va na) (hs : na.length ≤ 300) (R : Row (bs W) na x) (lb : Addr) (vb : List Value) (nb : List Int) (y : Int) (hlb : g.IsList lb vb.toArray) (hib : IntsAre vb nb) (hsb : nb.length ≤ 300) (S : Row (bs W) nb y) (k : Int) (tk : Tok) (hk : 0 ≤ k ∧ k ≤ 100) :
    Fn 2 w 93 [.ref la, .ref lb, .int k tk, .int W tw] g (fun v h' => ∃ xs, (Row (bs W) xs (x + bs W ^ k.toNat * y)) ∧ LOut g xs v h') := by
  with_unfolding_all refine' enter2 ?k6 ?k7 ?k9 ?kB ?c5 ?c2 ?c3 ?c4 ?_
  case k6 => k_is
  case k7 => k_is
  case k9 => intro s; exact BindsTo.of_eq rfl
  case kB => exact locs rfl
  case c5 => decide
  case c2 => exact rfl
  case c3 => exact rfl
  case c4 => exact rfl
  dsimp only [fnOf]
  intro dp un gd outer base A₀ p loose mean mg mb L' h₁ gn dr tk os Q' hdp hun B' X' T' F' N' ret
  have R' := R.drop (bs_pos W) k.toNat
  repeat' (first | (k_here; (with_reducible show wpAny _ _ (call (Value.ref 72) _ _) _ _ _); k_dflt ((with_unfolding_all refine' callL (add_fn _ _ _ _ ?hW _ _ _ _ ?hl ?hi ?hs ?R _ _ _ _ ?hlb ?hib ?hsb ?S) ?kB ?kF ?kX ?kN ?kT ?kA ?kf ?kk ?k1 ?k2 ?k3 ?_); (case hl => (first | (with_reducible assumption) | assumption | exact Fr.lst (by assumption) (by assumption) | exact News.isL (by assumption) (by k_mem) | exact News.isLp (by assumption) (by k_mem) | exact News.isL0 (by assumption) (by k_mem) | exact ArgLst.at' (by assumption) (by assumption) (by assumption) (by assumption) (by ((intro p9 hp9; repeat (first | exact hp9 | refine List.Mem.tail _ ?_)))) | exact NewLst.at' (by assumption) (by assumption) (by ((intro p9 hp9; repeat (first | exact hp9 | refine List.Mem.tail _ ?_)))) | exact IsLst.at' (by assumption) (by assumption) (by assumption) (by ((intro p9 hp9; repeat (first | exact hp9 | refine List.Mem.tail _ ?_)))))); (case hi => (first | assumption | exact IntsAre.nil | exact .cons _ _ .nil | exact IntsAre.append (by assumption) (.cons _ _ .nil))); (case hs => (first | assumption | omega | (have e := ‹_ = (rangeKs _ _).length›; rw [rangeKs_length] at e; omega) | (simp only [List.length_append, List.length_cons, List.length_nil, List.length_replicate, List.length_take, List.length_drop]; omega))); (case R => (assumption)); (case hlb => (first | (with_reducible assumption) | assumption | exact Fr.lst (by assumption) (by assumption) | exact News.isL (by assumption) (by k_mem) | exact News.isLp (by assumption) (by k_mem) | exact News.isL0 (by assumption) (by k_mem) | exact ArgLst.at' (by assumption) (by assumption) (by assumption) (by assumption) (by ((intro p9 hp9; repeat (first | exact hp9 | refine List.Mem.tail _ ?_)))) | exact NewLst.at' (by assumption) (by assumption) (by ((intro p9 hp9; repeat (first | exact hp9 | refine List.Mem.tail _ ?_)))) | exact IsLst.at' (by assumption) (by assumption) (by assumption) (by ((intro p9 hp9; repeat (first | exact hp9 | refine List.Mem.tail _ ?_)))))); (case hib => (first | assumption | exact IntsAre.nil | exact .cons _ _ .nil | exact IntsAre.append (by assumption) (.cons _ _ .nil))); (case hsb => (first | assumption | omega | (have e := ‹_ = (rangeKs _ _).length›; rw [rangeKs_length] at e; omega) | (simp only [List.length_append, List.length_cons, List.length_nil, List.length_replicate, List.length_take, List.length_drop]; omega))); (case S => (assumption)); (case hW => (first | assumption | omega)); (case kB => k_asm); (case kF => k_asm); (case kX => k_asm); (case kN => k_asm); (case kT => k_asm); (case kA => exact rfl); (case kf => exact rfl); (case kk => exact rfl); (case k1 => ktr_room); (case k2 => ktr_units); (case k3 => exact rfl); k_whole; intro la9 va9 n9 xs9 h9 tk9 F9 N9 ne9 hi9 hp9; obtain ⟨hr9, hq9⟩ := hp9; (try simp only [List.length_cons, List.length_nil] at hq9); (try dsimp only); (try k_fold))) | (first | ((with_reducible show wpAny _ _ (execs (_ :: _) _) _ _ _); walk1; refine wp_abs ?_; intro _ _; (try dsimp only)) | ((with_reducible refine use_abs (α := Flow) (by with_reducible assumption) ?_); (try (rename ∀ (_ : Flow) (_ : Shared), _ → _ => z9; clear z9)); (try (rename Flow → Shared → Prop => z8; clear z8)); (try dsimp only)) | (k_unfold; (try dsimp only)) | (k_end; kc_close) | walk1 | (dsimp only; walk1) | (leave1; (try dsimp only))))
  all_goals (try dsimp only)
  · refine' ret _ _ _ (Fr.keep (by assumption)) (Exists.intro ?xs1 (And.intro ?ro1 ?lo1))
    case lo1 => (first | exact LOut.mk (by assumption) (by k_mem) (by assumption) | exact LOut.mkNil (by assumption) (by k_mem) | exact LOut.mkPush (by assumption) (by k_mem) (by assumption))
    case ro1 => exact at_end0 R S (by assumption)
  · refine' ret _ _ _ (Fr.keep (by assumption)) (Exists.intro ?xs2 (And.intro ?ro2 ?lo2))
    case lo2 => (first | exact LOut.mk (by assumption) (by k_mem) (by assumption) | exact LOut.mkNil (by assumption) (by k_mem) | exact LOut.mkPush (by assumption) (by k_mem) (by assumption))
    case ro2 => exact at_end1 (bs_pos W) R S (by assumption) (by assumption)
  refine' ret _ _ _ (Fr.keep (by assumption)) (Exists.intro ?xs3 (And.intro ?ro3 ?lo3))
  case lo3 => (first | exact LOut.mk (by assumption) (by k_mem) (by assumption) | exact LOut.mkNil (by assumption) (by k_mem) | exact LOut.mkPush (by assumption) (by k_mem) (by assumption))
  case ro3 => exact at_end2 (bs_pos W) R S (by assumption) (by assumption) hk.1 (by assumption)

end FAddAt
section FLow
theorem fill_FLow : PySem.Challenge.rw_nn0009_01.prog = PySem.Challenge.rw_nn0009_01.prog ∧ hd.heap_39 = hd.heap_39 := by
  w_top off
  k_fill
  exact ⟨rfl, rfl⟩
theorem low_fn (w : World) (g : Heap) (W : Int) (tw : Tok) (hW : 2 ≤ W ∧ W ≤ 9) (la : Addr) (va : List Value) (na : List Int) (x : Int) (hl : g.IsList la va.toArray) (hi : IntsAre va na) (hs : na.length ≤ 300) (R : Row (bs W) na x) (n : Int) (tn : Tok) (hn : 0 ≤ n ∧ n ≤ 30) :
    Fn 2 w 114 [.ref la, .int n tn, .int W tw] g (fun v h' => ∃ xs, (Row (bs W) xs (x % 2 ^ n.toNat) ∧ xs.length ≤ na.length) ∧ LOut g xs v h') := by
  with_unfolding_all refine' enter2 ?k6 ?k7 ?k9 ?kB ?c5 ?c2 ?c3 ?c4 ?_
  case k6 => k_is
  case k7 => k_is
  case k9 => intro s; exact BindsTo.of_eq rfl
  case kB => exact locs rfl
  case c5 => decide
  case c2 => exact rfl
  case c3 => exact rfl
  case c4 => exact rfl
  dsimp only [fnOf]
  intro dp un gd outer base A₀ p loose mean mg mb L' h₁ gn dr tk os Q' hdp hun B' X' T' F' N' ret
  obtain ⟨hd0, hd1, hm0, hm1, hm2⟩ := fdm hn hW
  repeat' (first | (k_here; (with_reducible show wpAny _ _ (call (Value.ref 58) _ _) _ _ _); k_dflt ((with_unfolding_all refine' callL (normal_fn _ _ _ ?hB _ _ _ ?hl ?hi ?hs ?hLim) ?kB ?kF ?kX ?kN ?kT ?kA ?kf ?kk ?k1 ?k2 ?k3 ?_); (case hl => (first | (with_reducible assumption) | assumption | exact Fr.lst (by assumption) (by assumption) | exact News.isL (by assumption) (by k_mem) | exact News.isLp (by assumption) (by k_mem) | exact News.isL0 (by assumption) (by k_mem) | exact ArgLst.at' (by assumption) (by assumption) (by assumption) (by assumption) (by ((intro p9 hp9; repeat (first | exact hp9 | refine List.Mem.tail _ ?_)))) | exact NewLst.at' (by assumption) (by assumption) (by ((intro p9 hp9; repeat (first | exact hp9 | refine List.Mem.tail _ ?_)))) | exact IsLst.at' (by assumption) (by assumption) (by assumption) (by ((intro p9 hp9; repeat (first | exact hp9 | refine List.Mem.tail _ ?_)))))); (case hi => (first | assumption | exact IntsAre.nil | exact .cons _ _ .nil | exact IntsAre.append (by assumption) (.cons _ _ .nil))); (case hs => (first | assumption | omega | (have e := ‹_ = (rangeKs _ _).length›; rw [rangeKs_length] at e; omega) | (simp only [List.length_append, List.length_cons, List.length_nil, List.length_replicate, List.length_take, List.length_drop]; omega))); (case hLim => (first | (exact low_lim (Row.lim (by assumption)) (by assumption) (by assumption)) | (first | assumption | exact Lim.take (Lim.drop (Row.lim (by assumption)) _) _))); (case hB => exact bs_pos _); (case kB => k_asm); (case kF => k_asm); (case kX => k_asm); (case kN => k_asm); (case kT => k_asm); (case kA => exact rfl); (case kf => exact rfl); (case kk => exact rfl); (case k1 => ktr_room); (case k2 => ktr_units); (case k3 => exact rfl); k_whole; intro la9 va9 n9 xs9 h9 tk9 F9 N9 ne9 hi9 hp9; (try dsimp only); (try k_fold))) | (first | ((with_reducible show wpAny _ _ (execs (_ :: _) _) _ _ _); walk1; refine wp_abs ?_; intro _ _; (try dsimp only)) | ((with_reducible refine use_abs (α := Flow) (by with_reducible assumption) ?_); (try (rename ∀ (_ : Flow) (_ : Shared), _ → _ => z9; clear z9)); (try (rename Flow → Shared → Prop => z8; clear z8)); (try dsimp only)) | (k_unfold; (try dsimp only)) | (k_end; kc_close) | walk1 | (dsimp only; walk1) | (leave1; (try dsimp only))))
  all_goals (try dsimp only)
  · refine' ret _ _ _ (Fr.keep (by assumption)) (Exists.intro ?xs1 (And.intro ?ro1 ?lo1))
    case lo1 => (first | exact LOut.mk (by assumption) (by k_mem) (by assumption) | exact LOut.mkNil (by assumption) (by k_mem) | exact LOut.mkPush (by assumption) (by k_mem) (by assumption))
    case ro1 => exact low_end0 hn.1 (by omega) R (by assumption)
  · refine' ret _ _ _ (Fr.keep (by assumption)) (Exists.intro ?xs2 (And.intro ?ro2 ?lo2))
    case lo2 => (first | exact LOut.mk (by assumption) (by k_mem) (by assumption) | exact LOut.mkNil (by assumption) (by k_mem) | exact LOut.mkPush (by assumption) (by k_mem) (by assumption))
    case ro2 => exact low_end hn.1 (by omega) R (by assumption) ⟨hm0, hm2⟩ (by assumption)

end FLow
section FMul
theorem fill_FMul : PySem.Challenge.rw_nn0009_01.prog = PySem.Challenge.rw_nn0009_01.prog ∧ hd.heap_39 = hd.heap_39 := by
  w_top off
  k_fill
  exact ⟨rfl, rfl⟩
theorem mul_len {W x y : Int} {na nb xs : List Int} (R : Row (bs W) na x) (S : Row (bs W) nb y) (h : Row (bs W) xs (x * y)) : Row (bs W) xs (x * y) ∧ xs.length ≤ na.length + nb.length := ⟨h, h.len_le (bs_pos W) (mul_cap R S)⟩
theorem mul_fn (w : World) (g : Heap) (W : Int) (tw : Tok) (hW : 2 ≤ W ∧ W ≤ 9) (la : Addr) (va : List Value) (na : List Int) (x : Int) (hl : g.IsList la va.toArray) (hi : IntsAre va na) (hs : na.length ≤ 100) (R : Row (bs W) na x) (lb : Addr) (vb : List Value) (nb : List Int) (y : Int) (hlb : g.IsList lb vb.toArray) (hib : IntsAre vb nb) (hsb : nb.length ≤ 100) (S : Row (bs W) nb y) :
    Fn 2 w 184 [.ref la, .ref lb, .int W tw] g (fun v h' => ∃ xs, (Row (bs W) xs (x * y) ∧ xs.length ≤ na.length + nb.length) ∧ LOut g xs v h') := by
  with_unfolding_all refine' enter2 ?k6 ?k7 ?k9 ?kB ?c5 ?c2 ?c3 ?c4 ?_
  case k6 => k_is
  case k7 => k_is
  case k9 => intro s; exact BindsTo.of_eq rfl
  case kB => exact locs rfl
  case c5 => decide
  case c2 => exact rfl
  case c3 => exact rfl
  case c4 => exact rfl
  dsimp only [fnOf]
  intro dp un gd outer base A₀ p loose mean mg mb L' h₁ gn dr tk os Q' hdp hun B' X' T' F' N' ret
  have hx0 := R.nonneg (bs_pos W)
  have hy0 := S.nonneg (bs_pos W)
  have hxy0 := Int.mul_nonneg hx0 hy0
  have hcap := cap_mono (mul_cap R S) (by omega)
  have hmul := IntMulOk.of_bits (row_bits hW R (by omega)) (row_bits hW S (by omega))
  repeat' (first | (k_here; (with_reducible show wpAny _ _ (call (Value.ref 177) _ _) _ _ _); k_dflt ((with_unfolding_all refine' callI (num_fn _ _ _ _ ?hW _ _ _ _ ?hl ?hi ?hs ?R) ?kB ?kF ?kX ?kN ?kT ?kA ?kf ?kk ?k1 ?k2 ?k3 ?_); (case hl => (first | (with_reducible assumption) | assumption | exact Fr.lst (by assumption) (by assumption) | exact News.isL (by assumption) (by k_mem) | exact News.isLp (by assumption) (by k_mem) | exact News.isL0 (by assumption) (by k_mem) | exact ArgLst.at' (by assumption) (by assumption) (by assumption) (by assumption) (by ((intro p9 hp9; repeat (first | exact hp9 | refine List.Mem.tail _ ?_)))) | exact NewLst.at' (by assumption) (by assumption) (by ((intro p9 hp9; repeat (first | exact hp9 | refine List.Mem.tail _ ?_)))) | exact IsLst.at' (by assumption) (by assumption) (by assumption) (by ((intro p9 hp9; repeat (first | exact hp9 | refine List.Mem.tail _ ?_)))))); (case hi => (first | assumption | exact IntsAre.nil | exact .cons _ _ .nil | exact IntsAre.append (by assumption) (.cons _ _ .nil))); (case hs => (first | assumption | omega | (have e := ‹_ = (rangeKs _ _).length›; rw [rangeKs_length] at e; omega) | (simp only [List.length_append, List.length_cons, List.length_nil, List.length_replicate, List.length_take, List.length_drop]; omega))); (case R => (assumption)); (case hW => (first | assumption | omega)); (case kB => k_asm); (case kF => k_asm); (case kX => k_asm); (case kN => k_asm); (case kT => k_asm); (case kA => exact rfl); (case kf => exact rfl); (case kk => exact rfl); (case k1 => ktr_room); (case k2 => ktr_units); (case k3 => exact rfl); k_whole; intro i9 t9 h9 tk9 F9 N9 hp9; (have hp8 := hp9.symm); subst hp8; (try dsimp only); (try k_fold))) | (k_here; (with_reducible show wpAny _ _ (call (Value.ref 170) _ _) _ _ _); k_dflt ((with_unfolding_all refine' callL (row_fn _ _ _ _ ?hW _ _ ?hx ?hcap) ?kB ?kF ?kX ?kN ?kT ?kA ?kf ?kk ?k1 ?k2 ?k3 ?_); (case hW => (first | assumption | omega)); (case hx => (first | assumption | omega)); (case hcap => (first | assumption | omega)); (case kB => k_asm); (case kF => k_asm); (case kX => k_asm); (case kN => k_asm); (case kT => k_asm); (case kA => exact rfl); (case kf => exact rfl); (case kk => exact rfl); (case k1 => ktr_room); (case k2 => ktr_units); (case k3 => exact rfl); k_whole; intro la9 va9 n9 xs9 h9 tk9 F9 N9 ne9 hi9 hp9; (try dsimp only); (try k_fold))) | (first | ((with_reducible show wpAny _ _ (execs (_ :: _) _) _ _ _); walk1; refine wp_abs ?_; intro _ _; (try dsimp only)) | ((with_reducible refine use_abs (α := Flow) (by with_reducible assumption) ?_); (try (rename ∀ (_ : Flow) (_ : Shared), _ → _ => z9; clear z9)); (try (rename Flow → Shared → Prop => z8; clear z8)); (try dsimp only)) | (k_unfold; (try dsimp only)) | (k_end; kc_close) | walk1 | (dsimp only; walk1) | (leave1; (try dsimp only))))
  all_goals (try dsimp only)
  refine' ret _ _ _ (Fr.keep (by assumption)) (Exists.intro ?xs1 (And.intro ?ro1 ?lo1))
  case lo1 => (first | exact LOut.mk (by assumption) (by k_mem) (by assumption) | exact LOut.mkNil (by assumption) (by k_mem) | exact LOut.mkPush (by assumption) (by k_mem) (by assumption))
  case ro1 => exact mul_len R S (by assumption)

end FMul
section FOnce
theorem fill_FOnce : PySem.Challenge.rw_nn0009_01.prog = PySem.Challenge.rw_nn0009_01.prog ∧ hd.heap_39 = hd.heap_39 := by
  w_top off
  k_fill
  exact ⟨rfl, rfl⟩
theorem once_end {B m g r x : Int} {ng nr : List Int} (hB : 0 < B) (h : x = g * m + r) (G : Row B ng g) (Q : Row B nr r) (hr : r < m) {nm : List Int} (S : Row B nm m) (hg : ng.length ≤ 100) : (Row B ng (x / m) ∧ ng.length ≤ 100) ∧ Row B nr (x % m) ∧ nr.length ≤ nm.length := by
  have := once_done (Q.nonneg hB) h hr
  rw [← this.1, ← this.2]
  exact ⟨⟨G, hg⟩, Q, Q.len_mono hB S (Int.le_of_lt hr)⟩
theorem once_fn (w : World) (g : Heap) (W : Int) (tw : Tok) (hW : 2 ≤ W ∧ W ≤ 9) (la : Addr) (va : List Value) (na : List Int) (x : Int) (hl : g.IsList la va.toArray) (hi : IntsAre va na) (R : Row (bs W) na x)
    (lm : Addr) (vm : List Value) (nm : List Int) (m : Int) (hlm : g.IsList lm vm.toArray) (him : IntsAre vm nm) (S : Row (bs W) nm m) (hm0 : nm ≠ []) (hm4 : nm.length ≤ 4) (hs : na.length ≤ 2 * nm.length)
    (lv : Addr) (vv : List Value) (nv : List Int) (hlv : g.IsList lv vv.toArray) (hiv : IntsAre vv nv) (V : Row (bs W) nv (bs W ^ (2 * nm.length) / m)) (hv : nv.length ≤ 2 * nm.length + 1)
    (tt : Addr) (htt : IsTup g tt #[.ref lm, .ref lv]) (mu : Value) (hmu : mu = .ref 184) :
    Fn 6 w 135 [.ref la, .ref tt, .int W tw, mu] g (fun v h' => ∃ xs ys, ((Row (bs W) xs (x / m) ∧ xs.length ≤ 100) ∧ Row (bs W) ys (x % m) ∧ ys.length ≤ nm.length) ∧ TOut g xs ys v h') := by
  subst hmu
  with_unfolding_all refine' enter2 ?k6 ?k7 ?k9 ?kB ?c5 ?c2 ?c3 ?c4 ?_
  case k6 => k_is
  case k7 => k_is
  case k9 => intro s; exact BindsTo.of_eq rfl
  case kB => exact locs rfl
  case c5 => decide
  case c2 => exact rfl
  case c3 => exact rfl
  case c4 => exact rfl
  dsimp only [fnOf]
  intro dp un gd outer base A₀ p loose mean mg mb L' h₁ gn dr tk os Q' hdp hun B' X' T' F' N' ret
  have hone := one_row hW
  have hml : 1 ≤ nm.length := List.length_pos_iff.mpr hm0
  have hx0 := R.nonneg (bs_pos W)
  have hmp := S.pos_of (bs_pos W) hm0
  have hle := barrett_le (bs_pos W) hml hx0 hmp
  have R1 := R.drop (bs_pos W) ((nm.length : Int) - 1).toNat
  repeat' (first | (k_here; (with_reducible show wpAny _ _ (call (Value.ref 65) _ _) _ _ _); k_dflt ((with_unfolding_all refine' callI (compare_fn _ _ _ ?hB _ _ _ _ ?hl ?hi ?hs ?R _ _ _ _ ?hlb ?hib ?hsb ?S) ?kB ?kF ?kX ?kN ?kT ?kA ?kf ?kk ?k1 ?k2 ?k3 ?_); (case hl => (first | (with_reducible assumption) | assumption | exact Fr.lst (by assumption) (by assumption) | exact News.isL (by assumption) (by k_mem) | exact News.isLp (by assumption) (by k_mem) | exact News.isL0 (by assumption) (by k_mem) | exact ArgLst.at' (by assumption) (by assumption) (by assumption) (by assumption) (by ((intro p9 hp9; repeat (first | exact hp9 | refine List.Mem.tail _ ?_)))) | exact NewLst.at' (by assumption) (by assumption) (by ((intro p9 hp9; repeat (first | exact hp9 | refine List.Mem.tail _ ?_)))) | exact IsLst.at' (by assumption) (by assumption) (by assumption) (by ((intro p9 hp9; repeat (first | exact hp9 | refine List.Mem.tail _ ?_)))))); (case hi => (first | assumption | exact IntsAre.nil | exact .cons _ _ .nil | exact IntsAre.append (by assumption) (.cons _ _ .nil))); (case hs => (first | assumption | omega | (have e := ‹_ = (rangeKs _ _).length›; rw [rangeKs_length] at e; omega) | (simp only [List.length_append, List.length_cons, List.length_nil, List.length_replicate, List.length_take, List.length_drop]; omega))); (case R => (assumption)); (case hlb => (first | (with_reducible assumption) | assumption | exact Fr.lst (by assumption) (by assumption) | exact News.isL (by assumption) (by k_mem) | exact News.isLp (by assumption) (by k_mem) | exact News.isL0 (by assumption) (by k_mem) | exact ArgLst.at' (by assumption) (by assumption) (by assumption) (by assumption) (by ((intro p9 hp9; repeat (first | exact hp9 | refine List.Mem.tail _ ?_)))) | exact NewLst.at' (by assumption) (by assumption) (by ((intro p9 hp9; repeat (first | exact hp9 | refine List.Mem.tail _ ?_)))) | exact IsLst.at' (by assumption) (by assumption) (by assumption) (by ((intro p9 hp9; repeat (first | exact hp9 | refine List.Mem.tail _ ?_)))))); (case hib => (first | assumption | exact IntsAre.nil | exact .cons _ _ .nil | exact IntsAre.append (by assumption) (.cons _ _ .nil))); (case hsb => (first | assumption | omega | (have e := ‹_ = (rangeKs _ _).length›; rw [rangeKs_length] at e; omega) | (simp only [List.length_append, List.length_cons, List.length_nil, List.length_replicate, List.length_take, List.length_drop]; omega))); (case S => (assumption)); (case hB => exact bs_pos _); (case kB => k_asm); (case kF => k_asm); (case kX => k_asm); (case kN => k_asm); (case kT => k_asm); (case kA => exact rfl); (case kf => exact rfl); (case kk => exact rfl); (case k1 => ktr_room); (case k2 => ktr_units); (case k3 => exact rfl); k_whole; intro i9 t9 h9 tk9 F9 N9 hp9; have hc9 := cmp_facts hp9; (try dsimp only); (try k_fold))) | (k_here; (with_reducible show wpAny _ _ (call (Value.ref 79) _ _) _ _ _); k_dflt ((with_unfolding_all refine' callL (sub_fn _ _ _ _ ?hW _ _ _ _ ?hl ?hi ?hs ?R _ _ _ _ ?hlb ?hib ?hsb ?S ?hxy) ?kB ?kF ?kX ?kN ?kT ?kA ?kf ?kk ?k1 ?k2 ?k3 ?_); (case hl => (first | (with_reducible assumption) | assumption | exact Fr.lst (by assumption) (by assumption) | exact News.isL (by assumption) (by k_mem) | exact News.isLp (by assumption) (by k_mem) | exact News.isL0 (by assumption) (by k_mem) | exact ArgLst.at' (by assumption) (by assumption) (by assumption) (by assumption) (by ((intro p9 hp9; repeat (first | exact hp9 | refine List.Mem.tail _ ?_)))) | exact NewLst.at' (by assumption) (by assumption) (by ((intro p9 hp9; repeat (first | exact hp9 | refine List.Mem.tail _ ?_)))) | exact IsLst.at' (by assumption) (by assumption) (by assumption) (by ((intro p9 hp9; repeat (first | exact hp9 | refine List.Mem.tail _ ?_)))))); (case hi => (first | assumption | exact IntsAre.nil | exact .cons _ _ .nil | exact IntsAre.append (by assumption) (.cons _ _ .nil))); (case hs => (first | assumption | omega | (have e := ‹_ = (rangeKs _ _).length›; rw [rangeKs_length] at e; omega) | (simp only [List.length_append, List.length_cons, List.length_nil, List.length_replicate, List.length_take, List.length_drop]; omega))); (case R => (assumption)); (case hlb => (first | (with_reducible assumption) | assumption | exact Fr.lst (by assumption) (by assumption) | exact News.isL (by assumption) (by k_mem) | exact News.isLp (by assumption) (by k_mem) | exact News.isL0 (by assumption) (by k_mem) | exact ArgLst.at' (by assumption) (by assumption) (by assumption) (by assumption) (by ((intro p9 hp9; repeat (first | exact hp9 | refine List.Mem.tail _ ?_)))) | exact NewLst.at' (by assumption) (by assumption) (by ((intro p9 hp9; repeat (first | exact hp9 | refine List.Mem.tail _ ?_)))) | exact IsLst.at' (by assumption) (by assumption) (by assumption) (by ((intro p9 hp9; repeat (first | exact hp9 | refine List.Mem.tail _ ?_)))))); (case hib => (first | assumption | exact IntsAre.nil | exact .cons _ _ .nil | exact IntsAre.append (by assumption) (.cons _ _ .nil))); (case hsb => (first | assumption | omega | (have e := ‹_ = (rangeKs _ _).length›; rw [rangeKs_length] at e; omega) | (simp only [List.length_append, List.length_cons, List.length_nil, List.length_replicate, List.length_take, List.length_drop]; omega))); (case S => (assumption)); (case hW => (first | assumption | omega)); (case hxy => (first | assumption | omega)); (case kB => k_asm); (case kF => k_asm); (case kX => k_asm); (case kN => k_asm); (case kT => k_asm); (case kA => exact rfl); (case kf => exact rfl); (case kk => exact rfl); (case k1 => ktr_room); (case k2 => ktr_units); (case k3 => exact rfl); k_whole; intro la9 va9 n9 xs9 h9 tk9 F9 N9 ne9 hi9 hp9; obtain ⟨hr9, hq9⟩ := hp9; (try simp only [List.length_cons, List.length_nil] at hq9); (try dsimp only); (try k_fold))) | (k_here; (with_reducible show wpAny _ _ (call (Value.ref 184) _ _) _ _ _); k_dflt ((with_unfolding_all refine' callL (mul_fn _ _ _ _ ?hW _ _ _ _ ?hl ?hi ?hs ?R _ _ _ _ ?hlb ?hib ?hsb ?S) ?kB ?kF ?kX ?kN ?kT ?kA ?kf ?kk ?k1 ?k2 ?k3 ?_); (case hl => (first | (with_reducible assumption) | assumption | exact Fr.lst (by assumption) (by assumption) | exact News.isL (by assumption) (by k_mem) | exact News.isLp (by assumption) (by k_mem) | exact News.isL0 (by assumption) (by k_mem) | exact ArgLst.at' (by assumption) (by assumption) (by assumption) (by assumption) (by ((intro p9 hp9; repeat (first | exact hp9 | refine List.Mem.tail _ ?_)))) | exact NewLst.at' (by assumption) (by assumption) (by ((intro p9 hp9; repeat (first | exact hp9 | refine List.Mem.tail _ ?_)))) | exact IsLst.at' (by assumption) (by assumption) (by assumption) (by ((intro p9 hp9; repeat (first | exact hp9 | refine List.Mem.tail _ ?_)))))); (case hi => (first | assumption | exact IntsAre.nil | exact .cons _ _ .nil | exact IntsAre.append (by assumption) (.cons _ _ .nil))); (case hs => (first | assumption | omega)); (case R => (assumption)); (case hlb => (first | (with_reducible assumption) | assumption | exact Fr.lst (by assumption) (by assumption) | exact News.isL (by assumption) (by k_mem) | exact News.isLp (by assumption) (by k_mem) | exact News.isL0 (by assumption) (by k_mem) | exact ArgLst.at' (by assumption) (by assumption) (by assumption) (by assumption) (by ((intro p9 hp9; repeat (first | exact hp9 | refine List.Mem.tail _ ?_)))) | exact NewLst.at' (by assumption) (by assumption) (by ((intro p9 hp9; repeat (first | exact hp9 | refine List.Mem.tail _ ?_)))) | exact IsLst.at' (by assumption) (by assumption) (by assumption) (by ((intro p9 hp9; repeat (first | exact hp9 | refine List.Mem.tail _ ?_)))))); (case hib => (first | assumption | exact IntsAre.nil | exact .cons _ _ .nil | exact IntsAre.append (by assumption) (.cons _ _ .nil))); (case hsb => (first | assumption | omega)); (case S => (assumption)); (case hW => (first | assumption | omega)); (case kB => k_asm); (case kF => k_asm); (case kX => k_asm); (case kN => k_asm); (case kT => k_asm); (case kA => exact rfl); (case kf => exact rfl); (case kk => exact rfl); (case k1 => ktr_room); (case k2 => ktr_units); (case k3 => exact rfl); k_whole; intro la9 va9 n9 xs9 h9 tk9 F9 N9 ne9 hi9 hp9; obtain ⟨hr9, hq9⟩ := hp9; have hd9 := fun k => Row.drop (bs_pos _) hr9 k; (try dsimp only); (try k_fold))) | (k_here; (with_reducible show wpAny _ _ (call (Value.ref 72) _ _) _ _ _); k_dflt ((with_unfolding_all refine' callL (add_fn _ _ _ _ ?hW _ _ _ _ ?hl ?hi ?hs ?R _ _ _ _ ?hlb ?hib ?hsb ?S) ?kB ?kF ?kX ?kN ?kT ?kA ?kf ?kk ?k1 ?k2 ?k3 ?_); (case hl => (first | (with_reducible assumption) | assumption | exact Fr.lst (by assumption) (by assumption) | exact News.isL (by assumption) (by k_mem) | exact News.isLp (by assumption) (by k_mem) | exact News.isL0 (by assumption) (by k_mem) | exact ArgLst.at' (by assumption) (by assumption) (by assumption) (by assumption) (by ((intro p9 hp9; repeat (first | exact hp9 | refine List.Mem.tail _ ?_)))) | exact NewLst.at' (by assumption) (by assumption) (by ((intro p9 hp9; repeat (first | exact hp9 | refine List.Mem.tail _ ?_)))) | exact IsLst.at' (by assumption) (by assumption) (by assumption) (by ((intro p9 hp9; repeat (first | exact hp9 | refine List.Mem.tail _ ?_)))))); (case hi => (first | assumption | exact IntsAre.nil | exact .cons _ _ .nil | exact IntsAre.append (by assumption) (.cons _ _ .nil))); (case hs => (first | assumption | omega | (have e := ‹_ = (rangeKs _ _).length›; rw [rangeKs_length] at e; omega) | (simp only [List.length_append, List.length_cons, List.length_nil, List.length_replicate, List.length_take, List.length_drop]; omega))); (case R => (assumption)); (case hlb => (first | (with_reducible assumption) | assumption | exact Fr.lst (by assumption) (by assumption) | exact News.isL (by assumption) (by k_mem) | exact News.isLp (by assumption) (by k_mem) | exact News.isL0 (by assumption) (by k_mem) | exact ArgLst.at' (by assumption) (by assumption) (by assumption) (by assumption) (by ((intro p9 hp9; repeat (first | exact hp9 | refine List.Mem.tail _ ?_)))) | exact NewLst.at' (by assumption) (by assumption) (by ((intro p9 hp9; repeat (first | exact hp9 | refine List.Mem.tail _ ?_)))) | exact IsLst.at' (by assumption) (by assumption) (by assumption) (by ((intro p9 hp9; repeat (first | exact hp9 | refine List.Mem.tail _ ?_)))))); (case hib => (first | assumption | exact IntsAre.nil | exact .cons _ _ .nil | exact IntsAre.append (by assumption) (.cons _ _ .nil))); (case hsb => (first | assumption | omega | (have e := ‹_ = (rangeKs _ _).length›; rw [rangeKs_length] at e; omega) | (simp only [List.length_append, List.length_cons, List.length_nil, List.length_replicate, List.length_take, List.length_drop]; omega))); (case S => (assumption)); (case hW => (first | assumption | omega)); (case kB => k_asm); (case kF => k_asm); (case kX => k_asm); (case kN => k_asm); (case kT => k_asm); (case kA => exact rfl); (case kf => exact rfl); (case kk => exact rfl); (case k1 => ktr_room); (case k2 => ktr_units); (case k3 => exact rfl); k_whole; intro la9 va9 n9 xs9 h9 tk9 F9 N9 ne9 hi9 hp9; obtain ⟨hr9, hq9⟩ := hp9; (try simp only [List.length_cons, List.length_nil] at hq9); (try dsimp only); (try k_fold))) | (first | ((with_reducible show wpAny _ _ (execs (_ :: _) _) _ _ _); walk1; refine wp_abs ?_; intro _ _; (try dsimp only)) | ((with_reducible refine use_abs (α := Flow) (by with_reducible assumption) ?_); (try (rename ∀ (_ : Flow) (_ : Shared), _ → _ => z9; clear z9)); (try (rename Flow → Shared → Prop => z8; clear z8)); (try dsimp only)) | (k_unfold; (try dsimp only)) | (k_end; kc_close) | walk1 | (dsimp only; walk1) | (leave1; (try dsimp only))))
  all_goals (try dsimp only)
  rename ∀ k, Row _ (List.drop k _) _ => hdd
  have R2 := hdd ((nm.length : Int) + 1).toNat
  clear hdd
  k_with "exec While Compare cons nil" => (k_dflt ((rename PyProof.Rows.Fr _ _ _ _ => lF'); (rename PyProof.Rows.News _ _ _ _ => lN'); (with_unfolding_all refine' ksw_while (σ := S2) (fun c => c.led) (fun c => [(Str.ofString "rest", .ref c.a), (Str.ofString "guess", .ref c.b)]) (fun _ => True) [] (fun c => NewLst c.led c.a c.va ∧ NewLst c.led c.b c.vb ∧ IntsAre c.va c.na ∧ IntsAre c.vb c.nb ∧ Row (bs W) c.na c.x ∧ Row (bs W) c.nb c.y ∧ c.na.length ≤ 100 ∧ c.nb.length ≤ 100 ∧ x = c.y * m + c.x) (fun c => c.x.toNat) ⟨_, _, _, _, _, _, _, _, _, 0, 0⟩ lF' lN' trivial ?kk ?kp ?_); (case kk => kst_all); (case kp => (dsimp only; refine' ⟨?p1, ?p2, ?p3, ?p4, ?p5, ?p6, ?p7, ?p8, ?p9⟩; (case p1 => (refine' NewLst.new ?p10; (case p10 => k_mem))); (case p2 => (refine' NewLst.new ?p10; (case p10 => k_mem))); (case p3 => assumption); (case p4 => assumption); (case p5 => assumption); (case p6 => assumption); (case p7 => omega); (case p8 => omega); (case p9 => omega))); clear lF' lN'; intro c9 u9 h9 tk9 _ hP9 F9 N9; obtain ⟨led9, ra9, vr9, nr9, r9, ga9, vg9, ng9, g9, k9, t9⟩ := c9; obtain ⟨H1, H2, I1, I2, Q1, Q2, l1, l2, e9⟩ := hP9; dsimp only [kstB] at F9 N9 H1 H2 I1 I2 Q1 Q2 l1 l2 e9))
  repeat' (first | (k_here; (with_reducible show wpAny _ _ (call (Value.ref 65) _ _) _ _ _); k_dflt ((with_unfolding_all refine' callI (compare_fn _ _ _ ?hB _ _ _ _ ?hl ?hi ?hs ?R _ _ _ _ ?hlb ?hib ?hsb ?S) ?kB ?kF ?kX ?kN ?kT ?kA ?kf ?kk ?k1 ?k2 ?k3 ?_); (case hl => (first | (with_reducible assumption) | assumption | exact Fr.lst (by assumption) (by assumption) | exact News.isL (by assumption) (by k_mem) | exact News.isLp (by assumption) (by k_mem) | exact News.isL0 (by assumption) (by k_mem) | exact ArgLst.at' (by assumption) (by assumption) (by assumption) (by assumption) (by ((intro p9 hp9; repeat (first | exact hp9 | refine List.Mem.tail _ ?_)))) | exact NewLst.at' (by assumption) (by assumption) (by ((intro p9 hp9; repeat (first | exact hp9 | refine List.Mem.tail _ ?_)))) | exact IsLst.at' (by assumption) (by assumption) (by assumption) (by ((intro p9 hp9; repeat (first | exact hp9 | refine List.Mem.tail _ ?_)))))); (case hi => (first | assumption | exact IntsAre.nil | exact .cons _ _ .nil | exact IntsAre.append (by assumption) (.cons _ _ .nil))); (case hs => (first | assumption | omega | (have e := ‹_ = (rangeKs _ _).length›; rw [rangeKs_length] at e; omega) | (simp only [List.length_append, List.length_cons, List.length_nil, List.length_replicate, List.length_take, List.length_drop]; omega))); (case R => (assumption)); (case hlb => (first | (with_reducible assumption) | assumption | exact Fr.lst (by assumption) (by assumption) | exact News.isL (by assumption) (by k_mem) | exact News.isLp (by assumption) (by k_mem) | exact News.isL0 (by assumption) (by k_mem) | exact ArgLst.at' (by assumption) (by assumption) (by assumption) (by assumption) (by ((intro p9 hp9; repeat (first | exact hp9 | refine List.Mem.tail _ ?_)))) | exact NewLst.at' (by assumption) (by assumption) (by ((intro p9 hp9; repeat (first | exact hp9 | refine List.Mem.tail _ ?_)))) | exact IsLst.at' (by assumption) (by assumption) (by assumption) (by ((intro p9 hp9; repeat (first | exact hp9 | refine List.Mem.tail _ ?_)))))); (case hib => (first | assumption | exact IntsAre.nil | exact .cons _ _ .nil | exact IntsAre.append (by assumption) (.cons _ _ .nil))); (case hsb => (first | assumption | omega | (have e := ‹_ = (rangeKs _ _).length›; rw [rangeKs_length] at e; omega) | (simp only [List.length_append, List.length_cons, List.length_nil, List.length_replicate, List.length_take, List.length_drop]; omega))); (case S => (assumption)); (case hB => exact bs_pos _); (case kB => k_asm); (case kF => k_asm); (case kX => k_asm); (case kN => k_asm); (case kT => k_asm); (case kA => exact rfl); (case kf => exact rfl); (case kk => exact rfl); (case k1 => ktr_room); (case k2 => ktr_units); (case k3 => exact rfl); k_whole; intro i9 t9 h9 tk9 F9 N9 hp9; have hc9 := cmp_facts hp9; (try dsimp only); (try k_fold))) | (k_here; (with_reducible show wpAny _ _ (call (Value.ref 79) _ _) _ _ _); k_dflt ((with_unfolding_all refine' callL (sub_fn _ _ _ _ ?hW _ _ _ _ ?hl ?hi ?hs ?R _ _ _ _ ?hlb ?hib ?hsb ?S ?hxy) ?kB ?kF ?kX ?kN ?kT ?kA ?kf ?kk ?k1 ?k2 ?k3 ?_); (case hl => (first | (with_reducible assumption) | assumption | exact Fr.lst (by assumption) (by assumption) | exact News.isL (by assumption) (by k_mem) | exact News.isLp (by assumption) (by k_mem) | exact News.isL0 (by assumption) (by k_mem) | exact ArgLst.at' (by assumption) (by assumption) (by assumption) (by assumption) (by ((intro p9 hp9; repeat (first | exact hp9 | refine List.Mem.tail _ ?_)))) | exact NewLst.at' (by assumption) (by assumption) (by ((intro p9 hp9; repeat (first | exact hp9 | refine List.Mem.tail _ ?_)))) | exact IsLst.at' (by assumption) (by assumption) (by assumption) (by ((intro p9 hp9; repeat (first | exact hp9 | refine List.Mem.tail _ ?_)))))); (case hi => (first | assumption | exact IntsAre.nil | exact .cons _ _ .nil | exact IntsAre.append (by assumption) (.cons _ _ .nil))); (case hs => (first | assumption | omega | (have e := ‹_ = (rangeKs _ _).length›; rw [rangeKs_length] at e; omega) | (simp only [List.length_append, List.length_cons, List.length_nil, List.length_replicate, List.length_take, List.length_drop]; omega))); (case R => (assumption)); (case hlb => (first | (with_reducible assumption) | assumption | exact Fr.lst (by assumption) (by assumption) | exact News.isL (by assumption) (by k_mem) | exact News.isLp (by assumption) (by k_mem) | exact News.isL0 (by assumption) (by k_mem) | exact ArgLst.at' (by assumption) (by assumption) (by assumption) (by assumption) (by ((intro p9 hp9; repeat (first | exact hp9 | refine List.Mem.tail _ ?_)))) | exact NewLst.at' (by assumption) (by assumption) (by ((intro p9 hp9; repeat (first | exact hp9 | refine List.Mem.tail _ ?_)))) | exact IsLst.at' (by assumption) (by assumption) (by assumption) (by ((intro p9 hp9; repeat (first | exact hp9 | refine List.Mem.tail _ ?_)))))); (case hib => (first | assumption | exact IntsAre.nil | exact .cons _ _ .nil | exact IntsAre.append (by assumption) (.cons _ _ .nil))); (case hsb => (first | assumption | omega | (have e := ‹_ = (rangeKs _ _).length›; rw [rangeKs_length] at e; omega) | (simp only [List.length_append, List.length_cons, List.length_nil, List.length_replicate, List.length_take, List.length_drop]; omega))); (case S => (assumption)); (case hW => (first | assumption | omega)); (case hxy => (first | assumption | omega)); (case kB => k_asm); (case kF => k_asm); (case kX => k_asm); (case kN => k_asm); (case kT => k_asm); (case kA => exact rfl); (case kf => exact rfl); (case kk => exact rfl); (case k1 => ktr_room); (case k2 => ktr_units); (case k3 => exact rfl); k_whole; intro la9 va9 n9 xs9 h9 tk9 F9 N9 ne9 hi9 hp9; obtain ⟨hr9, hq9⟩ := hp9; (try simp only [List.length_cons, List.length_nil] at hq9); (try dsimp only); (try k_fold))) | (k_here; (with_reducible show wpAny _ _ (call (Value.ref 184) _ _) _ _ _); k_dflt ((with_unfolding_all refine' callL (mul_fn _ _ _ _ ?hW _ _ _ _ ?hl ?hi ?hs ?R _ _ _ _ ?hlb ?hib ?hsb ?S) ?kB ?kF ?kX ?kN ?kT ?kA ?kf ?kk ?k1 ?k2 ?k3 ?_); (case hl => (first | (with_reducible assumption) | assumption | exact Fr.lst (by assumption) (by assumption) | exact News.isL (by assumption) (by k_mem) | exact News.isLp (by assumption) (by k_mem) | exact News.isL0 (by assumption) (by k_mem) | exact ArgLst.at' (by assumption) (by assumption) (by assumption) (by assumption) (by ((intro p9 hp9; repeat (first | exact hp9 | refine List.Mem.tail _ ?_)))) | exact NewLst.at' (by assumption) (by assumption) (by ((intro p9 hp9; repeat (first | exact hp9 | refine List.Mem.tail _ ?_)))) | exact IsLst.at' (by assumption) (by assumption) (by assumption) (by ((intro p9 hp9; repeat (first | exact hp9 | refine List.Mem.tail _ ?_)))))); (case hi => (first | assumption | exact IntsAre.nil | exact .cons _ _ .nil | exact IntsAre.append (by assumption) (.cons _ _ .nil))); (case hs => (first | assumption | omega)); (case R => (assumption)); (case hlb => (first | (with_reducible assumption) | assumption | exact Fr.lst (by assumption) (by assumption) | exact News.isL (by assumption) (by k_mem) | exact News.isLp (by assumption) (by k_mem) | exact News.isL0 (by assumption) (by k_mem) | exact ArgLst.at' (by assumption) (by assumption) (by assumption) (by assumption) (by ((intro p9 hp9; repeat (first | exact hp9 | refine List.Mem.tail _ ?_)))) | exact NewLst.at' (by assumption) (by assumption) (by ((intro p9 hp9; repeat (first | exact hp9 | refine List.Mem.tail _ ?_)))) | exact IsLst.at' (by assumption) (by assumption) (by assumption) (by ((intro p9 hp9; repeat (first | exact hp9 | refine List.Mem.tail _ ?_)))))); (case hib => (first | assumption | exact IntsAre.nil | exact .cons _ _ .nil | exact IntsAre.append (by assumption) (.cons _ _ .nil))); (case hsb => (first | assumption | omega)); (case S => (assumption)); (case hW => (first | assumption | omega)); (case kB => k_asm); (case kF => k_asm); (case kX => k_asm); (case kN => k_asm); (case kT => k_asm); (case kA => exact rfl); (case kf => exact rfl); (case kk => exact rfl); (case k1 => ktr_room); (case k2 => ktr_units); (case k3 => exact rfl); k_whole; intro la9 va9 n9 xs9 h9 tk9 F9 N9 ne9 hi9 hp9; obtain ⟨hr9, hq9⟩ := hp9; have hd9 := fun k => Row.drop (bs_pos _) hr9 k; (try dsimp only); (try k_fold))) | (k_here; (with_reducible show wpAny _ _ (call (Value.ref 72) _ _) _ _ _); k_dflt ((with_unfolding_all refine' callL (add_fn _ _ _ _ ?hW _ _ _ _ ?hl ?hi ?hs ?R _ _ _ _ ?hlb ?hib ?hsb ?S) ?kB ?kF ?kX ?kN ?kT ?kA ?kf ?kk ?k1 ?k2 ?k3 ?_); (case hl => (first | (with_reducible assumption) | assumption | exact Fr.lst (by assumption) (by assumption) | exact News.isL (by assumption) (by k_mem) | exact News.isLp (by assumption) (by k_mem) | exact News.isL0 (by assumption) (by k_mem) | exact ArgLst.at' (by assumption) (by assumption) (by assumption) (by assumption) (by ((intro p9 hp9; repeat (first | exact hp9 | refine List.Mem.tail _ ?_)))) | exact NewLst.at' (by assumption) (by assumption) (by ((intro p9 hp9; repeat (first | exact hp9 | refine List.Mem.tail _ ?_)))) | exact IsLst.at' (by assumption) (by assumption) (by assumption) (by ((intro p9 hp9; repeat (first | exact hp9 | refine List.Mem.tail _ ?_)))))); (case hi => (first | assumption | exact IntsAre.nil | exact .cons _ _ .nil | exact IntsAre.append (by assumption) (.cons _ _ .nil))); (case hs => (first | assumption | omega | (have e := ‹_ = (rangeKs _ _).length›; rw [rangeKs_length] at e; omega) | (simp only [List.length_append, List.length_cons, List.length_nil, List.length_replicate, List.length_take, List.length_drop]; omega))); (case R => (assumption)); (case hlb => (first | (with_reducible assumption) | assumption | exact Fr.lst (by assumption) (by assumption) | exact News.isL (by assumption) (by k_mem) | exact News.isLp (by assumption) (by k_mem) | exact News.isL0 (by assumption) (by k_mem) | exact ArgLst.at' (by assumption) (by assumption) (by assumption) (by assumption) (by ((intro p9 hp9; repeat (first | exact hp9 | refine List.Mem.tail _ ?_)))) | exact NewLst.at' (by assumption) (by assumption) (by ((intro p9 hp9; repeat (first | exact hp9 | refine List.Mem.tail _ ?_)))) | exact IsLst.at' (by assumption) (by assumption) (by assumption) (by ((intro p9 hp9; repeat (first | exact hp9 | refine List.Mem.tail _ ?_)))))); (case hib => (first | assumption | exact IntsAre.nil | exact .cons _ _ .nil | exact IntsAre.append (by assumption) (.cons _ _ .nil))); (case hsb => (first | assumption | omega | (have e := ‹_ = (rangeKs _ _).length›; rw [rangeKs_length] at e; omega) | (simp only [List.length_append, List.length_cons, List.length_nil, List.length_replicate, List.length_take, List.length_drop]; omega))); (case S => (assumption)); (case hW => (first | assumption | omega)); (case kB => k_asm); (case kF => k_asm); (case kX => k_asm); (case kN => k_asm); (case kT => k_asm); (case kA => exact rfl); (case kf => exact rfl); (case kk => exact rfl); (case k1 => ktr_room); (case k2 => ktr_units); (case k3 => exact rfl); k_whole; intro la9 va9 n9 xs9 h9 tk9 F9 N9 ne9 hi9 hp9; obtain ⟨hr9, hq9⟩ := hp9; (try simp only [List.length_cons, List.length_nil] at hq9); (try dsimp only); (try k_fold))) | (first | ((with_reducible show wpAny _ _ (execs (_ :: _) _) _ _ _); walk1; refine wp_abs ?_; intro _ _; (try dsimp only)) | ((with_reducible refine use_abs (α := Flow) (by with_reducible assumption) ?_); (try (rename ∀ (_ : Flow) (_ : Shared), _ → _ => z9; clear z9)); (try (rename Flow → Shared → Prop => z8; clear z8)); (try dsimp only)) | (k_unfold; (try dsimp only)) | (k_end; kc_close) | walk1 | (dsimp only; walk1) | (leave1; (try dsimp only))))
  all_goals (try dsimp only)
  · refine' ksw_end ⟨_, _, _, _, _, _, _, _, _, 0, 0⟩ (by assumption) (by assumption) (fun p hp => hp) trivial ?kk ?ks ?kp ?km
    case kk => kst_all
    case ks => ksw_same
    case kp =>
      dsimp only
      refine' ⟨NewLst.new ?p1, NewLst.new ?p2, ?p3, ?p4, ?p5, ?p6, ?p7, ?p8, ?p9⟩
      case p1 => k_mem
      case p2 => k_mem
      case p3 => assumption
      case p4 => assumption
      case p5 => assumption
      case p6 => assumption
      case p7 => omega
      case p8 => exact once_len R (by omega) hmp (by assumption) (by omega) (by assumption)
      case p9 => exact (once_turn hmp (by assumption) (by omega)).1
    case km => exact (once_turn hmp (by assumption) (by omega)).2.2
  · refine' ret _ _ _ (Fr.keep (by assumption)) (Exists.intro ?xs1 (Exists.intro ?ys1 (And.intro ?ro1 ?lo1)))
    case lo1 => exact TOut.mkL (by assumption) (by k_mem) (by assumption) (by assumption) (by ((intro p9 hp9; repeat (first | exact hp9 | refine List.Mem.tail _ ?_)))) (by assumption) (by assumption)
    case ro1 => exact once_end (bs_pos W) (by assumption) (by assumption) (by assumption) (by omega) S (by assumption)

end FOnce
section FDiv
theorem fill_FDiv : PySem.Challenge.rw_nn0009_01.prog = PySem.Challenge.rw_nn0009_01.prog ∧ hd.heap_39 = hd.heap_39 := by
  w_top off
  k_fill
  exact ⟨rfl, rfl⟩
theorem div_fn (w : World) (g : Heap) (W : Int) (tw : Tok) (hW : 2 ≤ W ∧ W ≤ 9) (la : Addr) (va : List Value) (na : List Int) (x : Int) (hl : g.IsList la va.toArray) (hi : IntsAre va na) (R : Row (bs W) na x) (hs : na.length ≤ 50)
    (lm : Addr) (vm : List Value) (nm : List Int) (m : Int) (hlm : g.IsList lm vm.toArray) (him : IntsAre vm nm) (S : Row (bs W) nm m) (hm0 : nm ≠ []) (hm4 : nm.length ≤ 4)
    (lv : Addr) (vv : List Value) (nv : List Int) (hlv : g.IsList lv vv.toArray) (hiv : IntsAre vv nv) (V : Row (bs W) nv (bs W ^ (2 * nm.length) / m)) (hv : nv.length ≤ 2 * nm.length + 1)
    (tt : Addr) (htt : IsTup g tt #[.ref lm, .ref lv]) (mu : Value) (hmu : mu = .ref 184) :
    Fn 8 w 142 [.ref la, .ref tt, .int W tw, mu] g (fun v h' => ∃ xs ys, (Row (bs W) xs (x / m) ∧ Row (bs W) ys (x % m)) ∧ TOut g xs ys v h') := by
  subst hmu
  with_unfolding_all refine' enter2 ?k6 ?k7 ?k9 ?kB ?c5 ?c2 ?c3 ?c4 ?_
  case k6 => k_is
  case k7 => k_is
  case k9 => intro s; exact BindsTo.of_eq rfl
  case kB => exact locs rfl
  case c5 => decide
  case c2 => exact rfl
  case c3 => exact rfl
  case c4 => exact rfl
  dsimp only [fnOf]
  intro dp un gd outer base A₀ p loose mean mg mb L' h₁ gn dr tk os Q' hdp hun B' X' T' F' N' ret
  have hml : 1 ≤ nm.length := List.length_pos_iff.mpr hm0
  obtain ⟨hs0, hs1, hs2, hs3, hs4⟩ := spots ⟨hml, hm4⟩ hs
  have hx0 := R.nonneg (bs_pos W)
  have hmp := S.pos_of (bs_pos W) hm0
  have hnil : Row (bs W) [] 0 := Row.nil
  k_with "exec While Compare cons nil" => (k_dflt ((rename PyProof.Rows.Fr _ _ _ _ => lF'); (rename PyProof.Rows.News _ _ _ _ => lN'); (with_unfolding_all refine' ksw_while (σ := S2) (fun c => c.led) (fun c => [(Str.ofString "quotient", .ref c.a), (Str.ofString "rest", .ref c.b), (Str.ofString "spot", .int c.k c.t)]) (fun _ => True) [Str.ofString "part"] (fun c => NewLst c.led c.a c.va ∧ NewLst c.led c.b c.vb ∧ IntsAre c.va c.na ∧ IntsAre c.vb c.nb ∧ Row (bs W) c.na c.x ∧ Row (bs W) c.nb c.y ∧ c.na.length ≤ 100 ∧ c.nb.length ≤ 4 ∧ DivS (bs W) x m c.k c.x c.y ∧ 0 ≤ c.k ∧ c.k ≤ 60 ∧ (nm.length : Int) ∣ c.k ∧ c.y < m) (fun c => c.k.toNat) ⟨_, _, [], [], 0, _, [], [], 0, _, _⟩ lF' lN' trivial ?kk ?kp ?_); (case kk => kst_all); (case kp => (dsimp only; exact ⟨NewLst.new0 (by k_mem), NewLst.new0 (by k_mem), .nil, .nil, hnil, hnil, by decide, by decide, DivS.start (bs_pos W) R hs4, hs2, hs3, Int.dvd_mul_left _ _, hmp⟩)); clear lF' lN'; intro c9 u9 h9 tk9 _ hP9 F9 N9; obtain ⟨led9, qa9, vq9, nq9, q9, ra9, vr9, nr9, r9, k9, t9⟩ := c9; obtain ⟨H1, H2, I1, I2, Q1, Q2, l1, l2, D9, k0, k1, dv9, lt9⟩ := hP9; dsimp only [kstB] at F9 N9 H1 H2 I1 I2 Q1 Q2 l1 l2 D9 k0 k1 dv9 lt9; have hkn : 0 < k9 → (nm.length : Int) ≤ k9 := fun h => Int.le_of_dvd h dv9))
  repeat' (first | (k_here; (with_reducible show wpAny _ _ (call (Value.ref 121) _ _) _ _ _); k_dflt ((with_unfolding_all refine' callL (piece_fn _ _ _ (0 : Nat) ?hW _ _ _ _ ?hl ?hi ?hs ?R _ _ _ _ ?hk) ?kB ?kF ?kX ?kN ?kT ?kA ?kf ?kk ?k1 ?k2 ?k3 ?_); (case hl => (first | (with_reducible assumption) | assumption | exact Fr.lst (by assumption) (by assumption) | exact News.isL (by assumption) (by k_mem) | exact News.isLp (by assumption) (by k_mem) | exact News.isL0 (by assumption) (by k_mem) | exact ArgLst.at' (by assumption) (by assumption) (by assumption) (by assumption) (by ((intro p9 hp9; repeat (first | exact hp9 | refine List.Mem.tail _ ?_)))) | exact NewLst.at' (by assumption) (by assumption) (by ((intro p9 hp9; repeat (first | exact hp9 | refine List.Mem.tail _ ?_)))) | exact IsLst.at' (by assumption) (by assumption) (by assumption) (by ((intro p9 hp9; repeat (first | exact hp9 | refine List.Mem.tail _ ?_)))))); (case hi => (first | assumption | exact IntsAre.nil | exact .cons _ _ .nil | exact IntsAre.append (by assumption) (.cons _ _ .nil))); (case hs => (first | assumption | omega | (have e := ‹_ = (rangeKs _ _).length›; rw [rangeKs_length] at e; omega) | (simp only [List.length_append, List.length_cons, List.length_nil, List.length_replicate, List.length_take, List.length_drop]; omega))); (case R => (assumption)); (case hW => (first | assumption | omega)); (case hk => (first | assumption | omega)); (case kB => k_asm); (case kF => k_asm); (case kX => k_asm); (case kN => k_asm); (case kT => k_asm); (case kA => exact rfl); (case kf => exact rfl); (case kk => exact rfl); (case k1 => ktr_room); (case k2 => ktr_units); (case k3 => exact rfl); k_whole; intro la9 va9 n9 xs9 h9 tk9 F9 N9 ne9 hi9 hp9; obtain ⟨hr9, hq9⟩ := hp9; (try simp only [List.length_cons, List.length_nil] at hq9); (try dsimp only); (try k_fold))) | (k_here; (with_reducible show wpAny _ _ (call (Value.ref 93) _ _) _ _ _); k_dflt ((with_unfolding_all refine' callL (add_at_fn _ _ _ _ ?hW _ _ _ _ ?hl ?hi ?hs ?R _ _ _ _ ?hlb ?hib ?hsb ?S _ _ ?hk) ?kB ?kF ?kX ?kN ?kT ?kA ?kf ?kk ?k1 ?k2 ?k3 ?_); (case hl => (first | (with_reducible assumption) | assumption | exact Fr.lst (by assumption) (by assumption) | exact News.isL (by assumption) (by k_mem) | exact News.isLp (by assumption) (by k_mem) | exact News.isL0 (by assumption) (by k_mem) | exact ArgLst.at' (by assumption) (by assumption) (by assumption) (by assumption) (by ((intro p9 hp9; repeat (first | exact hp9 | refine List.Mem.tail _ ?_)))) | exact NewLst.at' (by assumption) (by assumption) (by ((intro p9 hp9; repeat (first | exact hp9 | refine List.Mem.tail _ ?_)))) | exact IsLst.at' (by assumption) (by assumption) (by assumption) (by ((intro p9 hp9; repeat (first | exact hp9 | refine List.Mem.tail _ ?_)))))); (case hi => (first | assumption | exact IntsAre.nil | exact .cons _ _ .nil | exact IntsAre.append (by assumption) (.cons _ _ .nil))); (case hs => (first | assumption | omega | (have e := ‹_ = (rangeKs _ _).length›; rw [rangeKs_length] at e; omega) | (simp only [List.length_append, List.length_cons, List.length_nil, List.length_replicate, List.length_take, List.length_drop]; omega))); (case R => (assumption)); (case hlb => (first | (with_reducible assumption) | assumption | exact Fr.lst (by assumption) (by assumption) | exact News.isL (by assumption) (by k_mem) | exact News.isLp (by assumption) (by k_mem) | exact News.isL0 (by assumption) (by k_mem) | exact ArgLst.at' (by assumption) (by assumption) (by assumption) (by assumption) (by ((intro p9 hp9; repeat (first | exact hp9 | refine List.Mem.tail _ ?_)))) | exact NewLst.at' (by assumption) (by assumption) (by ((intro p9 hp9; repeat (first | exact hp9 | refine List.Mem.tail _ ?_)))) | exact IsLst.at' (by assumption) (by assumption) (by assumption) (by ((intro p9 hp9; repeat (first | exact hp9 | refine List.Mem.tail _ ?_)))))); (case hib => (first | assumption | exact IntsAre.nil | exact .cons _ _ .nil | exact IntsAre.append (by assumption) (.cons _ _ .nil))); (case hsb => (first | assumption | omega | (have e := ‹_ = (rangeKs _ _).length›; rw [rangeKs_length] at e; omega) | (simp only [List.length_append, List.length_cons, List.length_nil, List.length_replicate, List.length_take, List.length_drop]; omega))); (case S => (assumption)); (case hW => (first | assumption | omega)); (case hk => (first | assumption | omega)); (case kB => k_asm); (case kF => k_asm); (case kX => k_asm); (case kN => k_asm); (case kT => k_asm); (case kA => exact rfl); (case kf => exact rfl); (case kk => exact rfl); (case k1 => ktr_room); (case k2 => ktr_units); (case k3 => exact rfl); k_whole; intro la9 va9 n9 xs9 h9 tk9 F9 N9 ne9 hi9 hp9; (try dsimp only); (try k_fold))) | (k_here; (with_reducible show wpAny _ _ (call (Value.ref 135) _ _) _ _ _); k_dflt ((with_unfolding_all refine' callT (once_fn _ _ _ _ ?hW _ _ _ _ ?hl ?hi ?R _ _ _ _ ?hlm ?him ?S ?hm0 ?hm4 ?hs _ _ _ ?hlv ?hiv ?V ?hv _ ?htt _ rfl) ?kB ?kF ?kX ?kN ?kT ?kA ?kf ?kk ?k1 ?k2 ?k3 ?_); (case htt => (first | exact tup_at (by assumption) (by assumption) | exact tup_new (by assumption) (by k_mem))); (case hl => (first | (with_reducible assumption) | assumption | exact Fr.lst (by assumption) (by assumption) | exact News.isL (by assumption) (by k_mem) | exact News.isLp (by assumption) (by k_mem) | exact News.isL0 (by assumption) (by k_mem) | exact ArgLst.at' (by assumption) (by assumption) (by assumption) (by assumption) (by ((intro p9 hp9; repeat (first | exact hp9 | refine List.Mem.tail _ ?_)))) | exact NewLst.at' (by assumption) (by assumption) (by ((intro p9 hp9; repeat (first | exact hp9 | refine List.Mem.tail _ ?_)))) | exact IsLst.at' (by assumption) (by assumption) (by assumption) (by ((intro p9 hp9; repeat (first | exact hp9 | refine List.Mem.tail _ ?_)))))); (case hi => (first | assumption | exact IntsAre.nil | exact .cons _ _ .nil | exact IntsAre.append (by assumption) (.cons _ _ .nil))); (case R => (assumption)); (case hlm => (first | (with_reducible assumption) | assumption | exact Fr.lst (by assumption) (by assumption) | exact News.isL (by assumption) (by k_mem) | exact News.isLp (by assumption) (by k_mem) | exact News.isL0 (by assumption) (by k_mem) | exact ArgLst.at' (by assumption) (by assumption) (by assumption) (by assumption) (by ((intro p9 hp9; repeat (first | exact hp9 | refine List.Mem.tail _ ?_)))) | exact NewLst.at' (by assumption) (by assumption) (by ((intro p9 hp9; repeat (first | exact hp9 | refine List.Mem.tail _ ?_)))) | exact IsLst.at' (by assumption) (by assumption) (by assumption) (by ((intro p9 hp9; repeat (first | exact hp9 | refine List.Mem.tail _ ?_)))))); (case him => (first | assumption | exact IntsAre.nil | exact .cons _ _ .nil | exact IntsAre.append (by assumption) (.cons _ _ .nil))); (case S => (assumption)); (case hm0 => assumption); (case hm4 => assumption); (case hs => (exact div_zlen rfl (by assumption) (by assumption) (by assumption) (by assumption) (by omega))); (case hlv => (first | (with_reducible assumption) | assumption | exact Fr.lst (by assumption) (by assumption) | exact News.isL (by assumption) (by k_mem) | exact News.isLp (by assumption) (by k_mem) | exact News.isL0 (by assumption) (by k_mem) | exact ArgLst.at' (by assumption) (by assumption) (by assumption) (by assumption) (by ((intro p9 hp9; repeat (first | exact hp9 | refine List.Mem.tail _ ?_)))) | exact NewLst.at' (by assumption) (by assumption) (by ((intro p9 hp9; repeat (first | exact hp9 | refine List.Mem.tail _ ?_)))) | exact IsLst.at' (by assumption) (by assumption) (by assumption) (by ((intro p9 hp9; repeat (first | exact hp9 | refine List.Mem.tail _ ?_)))))); (case hiv => (first | assumption | exact IntsAre.nil | exact .cons _ _ .nil | exact IntsAre.append (by assumption) (.cons _ _ .nil))); (case V => assumption); (case hv => assumption); (case hW => (first | assumption | omega)); (case kB => k_asm); (case kF => k_asm); (case kX => k_asm); (case kN => k_asm); (case kT => k_asm); (case kA => exact rfl); (case kf => exact rfl); (case kk => exact rfl); (case k1 => ktr_room); (case k2 => ktr_units); (case k3 => exact rfl); k_whole; intro tt9 la9 lb9 va9 n9 vb9 nb9 xs9 ys9 h9 tk9 F9 N9 hi9 hib9 hp9; obtain ⟨⟨hr9, hq9⟩, hs9, ht9⟩ := hp9; (try dsimp only); (try k_fold))) | (first | ((with_reducible show wpAny _ _ (execs (_ :: _) _) _ _ _); walk1; refine wp_abs ?_; intro _ _; (try dsimp only)) | ((with_reducible refine use_abs (α := Flow) (by with_reducible assumption) ?_); (try (rename ∀ (_ : Flow) (_ : Shared), _ → _ => z9; clear z9)); (try (rename Flow → Shared → Prop => z8; clear z8)); (try dsimp only)) | (k_unfold; (try dsimp only)) | (k_end; kc_close) | walk1 | (dsimp only; walk1) | (leave1; (try dsimp only))))
  all_goals (try dsimp only)

  · refine' ksw_end ⟨_, _, _, _, _, _, _, _, _, _, _⟩ (by assumption) (by assumption) (fun p hp => hp) trivial ?kk ?ks ?kp ?km
    case kk => kst_all
    case ks => ksw_same
    case kp =>
      dsimp only
      refine' ⟨NewLst.new ?p1, NewLst.new ?p2, ?p3, ?p4, ?p5, ?p6, ?p7, ?p8, ?p9, ?p10, ?p11, ?p12, ?p13⟩
      case p1 => k_mem
      case p2 => k_mem
      case p3 => assumption
      case p4 => assumption
      case p5 => assumption
      case p6 => assumption
      case p9 => exact DivS.step (bs_pos W) hmp hx0 (by omega) (by omega) D9 (by omega) rfl
      case p7 => exact DivS.len (by assumption) (DivS.step (bs_pos W) hmp hx0 (by omega) (by omega) D9 (by omega) rfl) R hs hmp
      case p8 => exact rest_len (bs_pos W) (by assumption) S hmp hm4
      case p10 => omega
      case p11 => omega
      case p12 => exact Int.dvd_sub dv9 (Int.dvd_refl _)
      case p13 => exact Int.emod_lt_of_pos _ hmp
    case km => dsimp only; omega
  · refine' ret _ _ _ (Fr.keep (by assumption)) (Exists.intro ?xs1 (Exists.intro ?ys1 (And.intro ?ro1 ?lo1)))
    case lo1 => exact TOut.mkL (by assumption) (by k_mem) (by assumption) (by assumption) (by ((intro p9 hp9; repeat (first | exact hp9 | refine List.Mem.tail _ ?_)))) (by assumption) (by assumption)
    case ro1 => exact div_end k0 (by assumption) D9 (by assumption) (by assumption)

end FDiv
section FRest
theorem fill_FRest : PySem.Challenge.rw_nn0009_01.prog = PySem.Challenge.rw_nn0009_01.prog ∧ hd.heap_39 = hd.heap_39 := by
  w_top off
  k_fill
  exact ⟨rfl, rfl⟩
theorem rest_fn (w : World) (g : Heap) (W : Int) (tw : Tok) (hW : 2 ≤ W ∧ W ≤ 9) (la : Addr) (va : List Value) (na : List Int) (x : Int) (hl : g.IsList la va.toArray) (hi : IntsAre va na) (R : Row (bs W) na x) (hs : na.length ≤ 50)
    (lm : Addr) (vm : List Value) (nm : List Int) (m : Int) (hlm : g.IsList lm vm.toArray) (him : IntsAre vm nm) (S : Row (bs W) nm m) (hm0 : nm ≠ []) (hm4 : nm.length ≤ 4)
    (lv : Addr) (vv : List Value) (nv : List Int) (hlv : g.IsList lv vv.toArray) (hiv : IntsAre vv nv) (V : Row (bs W) nv (bs W ^ (2 * nm.length) / m)) (hv : nv.length ≤ 2 * nm.length + 1)
    (tt : Addr) (htt : IsTup g tt #[.ref lm, .ref lv]) (mu : Value) (hmu : mu = .ref 184) :
    Fn 9 w 149 [.ref la, .ref tt, .int W tw, mu] g (fun v h' => ∃ xs, (Row (bs W) xs (x % m)) ∧ LOut g xs v h') := by
  subst hmu
  with_unfolding_all refine' enter2 ?k6 ?k7 ?k9 ?kB ?c5 ?c2 ?c3 ?c4 ?_
  case k6 => k_is
  case k7 => k_is
  case k9 => intro s; exact BindsTo.of_eq rfl
  case kB => exact locs rfl
  case c5 => decide
  case c2 => exact rfl
  case c3 => exact rfl
  case c4 => exact rfl
  dsimp only [fnOf]
  intro dp un gd outer base A₀ p loose mean mg mb L' h₁ gn dr tk os Q' hdp hun B' X' T' F' N' ret
  repeat' (first | (k_here; (with_reducible show wpAny _ _ (call (Value.ref 142) _ _) _ _ _); k_dflt ((with_unfolding_all refine' callT (div_fn _ _ _ _ ?hW _ _ _ _ ?hl ?hi ?R ?hs _ _ _ _ ?hlm ?him ?S ?hm0 ?hm4 _ _ _ ?hlv ?hiv ?V ?hv _ ?htt _ rfl) ?kB ?kF ?kX ?kN ?kT ?kA ?kf ?kk ?k1 ?k2 ?k3 ?_); (case htt => (first | exact tup_at (by assumption) (by assumption) | exact tup_new (by assumption) (by k_mem))); (case hl => (first | (with_reducible assumption) | assumption | exact Fr.lst (by assumption) (by assumption) | exact News.isL (by assumption) (by k_mem) | exact News.isLp (by assumption) (by k_mem) | exact News.isL0 (by assumption) (by k_mem) | exact ArgLst.at' (by assumption) (by assumption) (by assumption) (by assumption) (by ((intro p9 hp9; repeat (first | exact hp9 | refine List.Mem.tail _ ?_)))) | exact NewLst.at' (by assumption) (by assumption) (by ((intro p9 hp9; repeat (first | exact hp9 | refine List.Mem.tail _ ?_)))) | exact IsLst.at' (by assumption) (by assumption) (by assumption) (by ((intro p9 hp9; repeat (first | exact hp9 | refine List.Mem.tail _ ?_)))))); (case hi => (first | assumption | exact IntsAre.nil | exact .cons _ _ .nil | exact IntsAre.append (by assumption) (.cons _ _ .nil))); (case R => (assumption)); (case hlm => (first | (with_reducible assumption) | assumption | exact Fr.lst (by assumption) (by assumption) | exact News.isL (by assumption) (by k_mem) | exact News.isLp (by assumption) (by k_mem) | exact News.isL0 (by assumption) (by k_mem) | exact ArgLst.at' (by assumption) (by assumption) (by assumption) (by assumption) (by ((intro p9 hp9; repeat (first | exact hp9 | refine List.Mem.tail _ ?_)))) | exact NewLst.at' (by assumption) (by assumption) (by ((intro p9 hp9; repeat (first | exact hp9 | refine List.Mem.tail _ ?_)))) | exact IsLst.at' (by assumption) (by assumption) (by assumption) (by ((intro p9 hp9; repeat (first | exact hp9 | refine List.Mem.tail _ ?_)))))); (case him => (first | assumption | exact IntsAre.nil | exact .cons _ _ .nil | exact IntsAre.append (by assumption) (.cons _ _ .nil))); (case S => (assumption)); (case hm0 => assumption); (case hm4 => assumption); (case hs => (first | assumption | omega | (have e := ‹_ = (rangeKs _ _).length›; rw [rangeKs_length] at e; omega) | (simp only [List.length_append, List.length_cons, List.length_nil, List.length_replicate, List.length_take, List.length_drop]; omega))); (case hlv => (first | (with_reducible assumption) | assumption | exact Fr.lst (by assumption) (by assumption) | exact News.isL (by assumption) (by k_mem) | exact News.isLp (by assumption) (by k_mem) | exact News.isL0 (by assumption) (by k_mem) | exact ArgLst.at' (by assumption) (by assumption) (by assumption) (by assumption) (by ((intro p9 hp9; repeat (first | exact hp9 | refine List.Mem.tail _ ?_)))) | exact NewLst.at' (by assumption) (by assumption) (by ((intro p9 hp9; repeat (first | exact hp9 | refine List.Mem.tail _ ?_)))) | exact IsLst.at' (by assumption) (by assumption) (by assumption) (by ((intro p9 hp9; repeat (first | exact hp9 | refine List.Mem.tail _ ?_)))))); (case hiv => (first | assumption | exact IntsAre.nil | exact .cons _ _ .nil | exact IntsAre.append (by assumption) (.cons _ _ .nil))); (case V => assumption); (case hv => assumption); (case hW => (first | assumption | omega)); (case kB => k_asm); (case kF => k_asm); (case kX => k_asm); (case kN => k_asm); (case kT => k_asm); (case kA => exact rfl); (case kf => exact rfl); (case kk => exact rfl); (case k1 => ktr_room); (case k2 => ktr_units); (case k3 => exact rfl); k_whole; intro tt9 la9 lb9 va9 n9 vb9 nb9 xs9 ys9 h9 tk9 F9 N9 hi9 hib9 hp9; obtain ⟨hr9, hq9⟩ := hp9; (try simp only [List.length_cons, List.length_nil] at hq9); (try dsimp only); (try k_fold))) | (first | ((with_reducible show wpAny _ _ (execs (_ :: _) _) _ _ _); walk1; refine wp_abs ?_; intro _ _; (try dsimp only)) | ((with_reducible refine use_abs (α := Flow) (by with_reducible assumption) ?_); (try (rename ∀ (_ : Flow) (_ : Shared), _ → _ => z9; clear z9)); (try (rename Flow → Shared → Prop => z8; clear z8)); (try dsimp only)) | (k_unfold; (try dsimp only)) | (k_end; kc_close) | walk1 | (dsimp only; walk1) | (leave1; (try dsimp only))))
  all_goals (try dsimp only)
  refine' ret _ _ _ (Fr.keep (by assumption)) (Exists.intro ?xs1 (And.intro ?ro1 ?lo1))
  case lo1 => (first | exact LOut.mk (by assumption) (by k_mem) (by assumption) | exact LOut.mkNil (by assumption) (by k_mem) | exact LOut.mkPush (by assumption) (by k_mem) (by assumption))
  case ro1 => assumption

end FRest
local macro_rules | `(tactic| walk_at "binaryOp LShift int int") => `(tactic| (k_here; (with_reducible refine PyProof.Rows.lshift_int_small ?n0 ?n1 ?n2 ?_); (case n0 => omega); (case n1 => omega); (case n2 => first | decide | (have hk9 := List.mem_singleton.mp ‹_ ∈ [(1 : Int)]›; omega))))
section FShl
theorem fill_FShl : PySem.Challenge.rw_nn0009_01.prog = PySem.Challenge.rw_nn0009_01.prog ∧ hd.heap_39 = hd.heap_39 := by
  w_top off
  k_fill
  exact ⟨rfl, rfl⟩
theorem shl_fn (w : World) (g : Heap) (W : Int) (tw : Tok) (hW : 2 ≤ W ∧ W ≤ 9) (la : Addr) (t1 : Tok) (hl : g.IsList la [Value.int 1 t1].toArray) (n : Int) (tn : Tok) (hn : 0 ≤ n ∧ n ≤ 30) :
    Fn 1 w 100 [.ref la, .int n tn, .int W tw] g (fun v h' => ∃ xs, (Row (bs W) xs (2 ^ n.toNat) ∧ xs.length ≤ 30) ∧ LOut g xs v h') := by
  with_unfolding_all refine' enter2 ?k6 ?k7 ?k9 ?kB ?c5 ?c2 ?c3 ?c4 ?_
  case k6 => k_is
  case k7 => k_is
  case k9 => intro s; exact BindsTo.of_eq rfl
  case kB => exact locs rfl
  case c5 => decide
  case c2 => exact rfl
  case c3 => exact rfl
  case c4 => exact rfl
  dsimp only [fnOf]
  intro dp un gd outer base A₀ p loose mean mg mb L' h₁ gn dr tk os Q' hdp hun B' X' T' F' N' ret
  obtain ⟨hd0, hd1, hm0, hm1, hm2⟩ := fdm hn hW
  have hi : IntsAre [Value.int 1 t1] [1] := .cons _ _ .nil
  k_with "state" => first | exact shl_s ⟨hd0, hd1⟩ | exact shl_t hm0 hm2 (by assumption) (by assumption) (by assumption) (by assumption)
  k_with "pyIter ref" => (k_state (fun pre c xs => c = 0 ∧ xs.length ≤ 20 + pre.length ∧ xs = (List.replicate (n.fdiv W).toNat [0]).flatten ++ pre.map fun _ => 2 ^ (n.fmod W).toNat) "carry" "found")
  repeat' (first | (first | ((with_reducible show wpAny _ _ (execs (_ :: _) _) _ _ _); walk1; refine wp_abs ?_; intro _ _; (try dsimp only)) | ((with_reducible refine use_abs (α := Flow) (by with_reducible assumption) ?_); (try (rename ∀ (_ : Flow) (_ : Shared), _ → _ => z9; clear z9)); (try (rename Flow → Shared → Prop => z8; clear z8)); (try dsimp only)) | (k_unfold; (try dsimp only)) | (k_end; kc_close) | walk1 | (dsimp only; walk1) | (leave1; (try dsimp only))))
  all_goals (try dsimp only)
  refine' ret _ _ _ (Fr.keep (by assumption)) (Exists.intro ?xs1 (And.intro ?ro1 ?lo1))
  case lo1 => (first | exact LOut.mk (by assumption) (by k_mem) (by assumption) | exact LOut.mkNil (by assumption) (by k_mem) | exact LOut.mkPush (by assumption) (by k_mem) (by assumption))
  case ro1 => exact shl_end' hn hW (by assumption)

end FShl
local macro_rules | `(tactic| walk_at "binaryOp LShift int int") => `(tactic| (k_here; (with_reducible refine PyProof.Rows.lshift_int_small ?n0 ?n1 ?n2 ?_); (case n0 => omega); (case n1 => omega); (case n2 => first | decide | exact limb_small (by assumption) (by assumption) _)))
section FShr
theorem fill_FShr : PySem.Challenge.rw_nn0009_01.prog = PySem.Challenge.rw_nn0009_01.prog ∧ hd.heap_39 = hd.heap_39 := by
  w_top off
  k_fill
  exact ⟨rfl, rfl⟩
theorem shr_fn (w : World) (g : Heap) (W : Int) (tw : Tok) (hW : 2 ≤ W ∧ W ≤ 9) (la : Addr) (va : List Value) (na : List Int) (x : Int) (hl : g.IsList la va.toArray) (hi : IntsAre va na) (hs : na.length ≤ 300) (R : Row (bs W) na x) (n : Int) (tn : Tok) (hn : 0 ≤ n ∧ n ≤ 30) :
    Fn 2 w 107 [.ref la, .int n tn, .int W tw] g (fun v h' => ∃ xs, (Row (bs W) xs (x / 2 ^ n.toNat) ∧ xs.length ≤ na.length) ∧ LOut g xs v h') := by
  with_unfolding_all refine' enter2 ?k6 ?k7 ?k9 ?kB ?c5 ?c2 ?c3 ?c4 ?_
  case k6 => k_is
  case k7 => k_is
  case k9 => intro s; exact BindsTo.of_eq rfl
  case kB => exact locs rfl
  case c5 => decide
  case c2 => exact rfl
  case c3 => exact rfl
  case c4 => exact rfl
  dsimp only [fnOf]
  intro dp un gd outer base A₀ p loose mean mg mb L' h₁ gn dr tk os Q' hdp hun B' X' T' F' N' ret
  obtain ⟨hd0, hd1, hm0, hm1, hm2⟩ := fdm hn hW
  have hLa := R.lim
  k_with "state" => first | exact ⟨rfl, ShrS.start⟩ | exact shr_t hW hm0 hm2 hd0 hLa (by assumption) (by assumption) (by assumption) rfl | exact shr_t hW hm0 hm2 hd0 hLa (by assumption) (by assumption) (by assumption) (getD_none' (by assumption))
  k_with "pyIter ref" => (k_state (fun pre xs => xs.length = pre.length ∧ ShrS (bs W) (2 ^ (n.fmod W).toNat) na (n.fdiv W).toNat xs.length xs) "found")
  repeat' (first | (k_here; (with_reducible show wpAny _ _ (call (Value.ref 58) _ _) _ _ _); k_dflt ((with_unfolding_all refine' callL (normal_fn _ _ _ ?hB _ _ _ ?hl ?hi ?hs ?hLim) ?kB ?kF ?kX ?kN ?kT ?kA ?kf ?kk ?k1 ?k2 ?k3 ?_); (case hl => (first | (with_reducible assumption) | assumption | exact Fr.lst (by assumption) (by assumption) | exact News.isL (by assumption) (by k_mem) | exact News.isLp (by assumption) (by k_mem) | exact News.isL0 (by assumption) (by k_mem) | exact ArgLst.at' (by assumption) (by assumption) (by assumption) (by assumption) (by ((intro p9 hp9; repeat (first | exact hp9 | refine List.Mem.tail _ ?_)))) | exact NewLst.at' (by assumption) (by assumption) (by ((intro p9 hp9; repeat (first | exact hp9 | refine List.Mem.tail _ ?_)))) | exact IsLst.at' (by assumption) (by assumption) (by assumption) (by ((intro p9 hp9; repeat (first | exact hp9 | refine List.Mem.tail _ ?_)))))); (case hi => (first | assumption | exact IntsAre.nil | exact .cons _ _ .nil | exact IntsAre.append (by assumption) (.cons _ _ .nil))); (case hs => (first | assumption | omega | (have e := ‹_ = (rangeKs _ _).length›; rw [rangeKs_length] at e; omega) | (simp only [List.length_append, List.length_cons, List.length_nil, List.length_replicate, List.length_take, List.length_drop]; omega))); (case hLim => (first | (exact (‹ShrS _ _ _ _ _ _›).1) | (first | assumption | exact Lim.take (Lim.drop (Row.lim (by assumption)) _) _))); (case hB => exact bs_pos _); (case kB => k_asm); (case kF => k_asm); (case kX => k_asm); (case kN => k_asm); (case kT => k_asm); (case kA => exact rfl); (case kf => exact rfl); (case kk => exact rfl); (case k1 => ktr_room); (case k2 => ktr_units); (case k3 => exact rfl); k_whole; intro la9 va9 n9 xs9 h9 tk9 F9 N9 ne9 hi9 hp9; (try dsimp only); (try k_fold))) | (first | ((with_reducible show wpAny _ _ (execs (_ :: _) _) _ _ _); walk1; refine wp_abs ?_; intro _ _; (try dsimp only)) | ((with_reducible refine use_abs (α := Flow) (by with_reducible assumption) ?_); (try (rename ∀ (_ : Flow) (_ : Shared), _ → _ => z9; clear z9)); (try (rename Flow → Shared → Prop => z8; clear z8)); (try dsimp only)) | (k_unfold; (try dsimp only)) | (k_end; kc_close) | walk1 | (dsimp only; walk1) | (leave1; (try dsimp only))))
  all_goals (try dsimp only)
  refine' ret _ _ _ (Fr.keep (by assumption)) (Exists.intro ?xs1 (And.intro ?ro1 ?lo1))
  case lo1 => (first | exact LOut.mk (by assumption) (by k_mem) (by assumption) | exact LOut.mkNil (by assumption) (by k_mem) | exact LOut.mkPush (by assumption) (by k_mem) (by assumption))
  case ro1 => exact shr_end' hn.1 (by omega) R hm0 hm2 hd0 (by assumption) (by assumption) (by assumption)

end FShr
local macro_rules | `(tactic| walk_at "binaryOp FloorDiv int int") => `(tactic| (k_here; (with_reducible refine PyProof.Rows.floordiv_int ?nz ?_ (Or.inl (PyProof.noPylong_of_log2 ?lg))); (case nz => omega); (case lg => assumption)))
local macro_rules | `(tactic| walk_at "binaryOp Mod int int") => `(tactic| (k_here; (with_reducible refine PyProof.Rows.mod_int' ?nz ?_); (case nz => omega)))
section FDivrem
theorem fill_FDivrem : PySem.Challenge.rw_nn0009_01.prog = PySem.Challenge.rw_nn0009_01.prog ∧ hd.heap_39 = hd.heap_39 := by
  w_top off
  k_fill
  exact ⟨rfl, rfl⟩
theorem divrem_end {W x y : Int} {na nb xs ys : List Int} (R : Row (bs W) na x) (S : Row (bs W) nb y) (hy : 0 < y) (h1 : Row (bs W) xs (x.fdiv y)) (h2 : Row (bs W) ys (x.fmod y)) : (Row (bs W) xs (x / y) ∧ xs.length ≤ na.length) ∧ (Row (bs W) ys (x % y) ∧ ys.length ≤ nb.length) := by
  have hx0 := R.nonneg (bs_pos W)
  rw [Int.fdiv_eq_ediv_of_nonneg _ (by omega)] at h1
  rw [Int.fmod_eq_emod_of_nonneg _ (by omega)] at h2
  exact ⟨⟨h1, h1.len_mono (bs_pos W) R (Int.ediv_le_self _ hx0)⟩, h2, h2.len_mono (bs_pos W) S (Int.le_of_lt (Int.emod_lt_of_pos _ hy))⟩
theorem divrem_fn (w : World) (g : Heap) (W : Int) (tw : Tok) (hW : 2 ≤ W ∧ W ≤ 9) (la : Addr) (va : List Value) (na : List Int) (x : Int) (hl : g.IsList la va.toArray) (hi : IntsAre va na) (hs : na.length ≤ 300) (R : Row (bs W) na x) (lb : Addr) (vb : List Value) (nb : List Int) (y : Int) (hlb : g.IsList lb vb.toArray) (hib : IntsAre vb nb) (hsb : nb.length ≤ 300) (S : Row (bs W) nb y) (hy : 0 < y) :
    Fn 2 w 191 [.ref la, .ref lb, .int W tw] g (fun v h' => ∃ xs ys, ((Row (bs W) xs (x / y) ∧ xs.length ≤ na.length) ∧ (Row (bs W) ys (x % y) ∧ ys.length ≤ nb.length)) ∧ TOut g xs ys v h') := by
  with_unfolding_all refine' enter2 ?k6 ?k7 ?k9 ?kB ?c5 ?c2 ?c3 ?c4 ?_
  case k6 => k_is
  case k7 => k_is
  case k9 => intro s; exact BindsTo.of_eq rfl
  case kB => exact locs rfl
  case c5 => decide
  case c2 => exact rfl
  case c3 => exact rfl
  case c4 => exact rfl
  dsimp only [fnOf]
  intro dp un gd outer base A₀ p loose mean mg mb L' h₁ gn dr tk os Q' hdp hun B' X' T' F' N' ret
  have hx0 := R.nonneg (bs_pos W)
  have hq0 : 0 ≤ x.fdiv y := by rw [Int.fdiv_eq_ediv_of_nonneg _ (by omega)]; exact Int.ediv_nonneg hx0 (by omega)
  have hr0 : 0 ≤ x.fmod y := by rw [Int.fmod_eq_emod_of_nonneg _ (by omega)]; exact Int.emod_nonneg _ (by omega)
  have hcap1 : x.fdiv y < bs W ^ 300 := by
    rw [Int.fdiv_eq_ediv_of_nonneg _ (by omega)]
    exact cap_mono (Int.lt_of_le_of_lt (Int.ediv_le_self _ hx0) (R.lt (bs_pos W))) hs
  have hcap2 : x.fmod y < bs W ^ 300 := by
    rw [Int.fmod_eq_emod_of_nonneg _ (by omega)]
    exact cap_mono (Int.lt_trans (Int.emod_lt_of_pos _ hy) (S.lt (bs_pos W))) hsb
  have hlog := row_log hW S hsb
  repeat' (first | (k_here; (with_reducible show wpAny _ _ (call (Value.ref 177) _ _) _ _ _); k_dflt ((with_unfolding_all refine' callI (num_fn _ _ _ _ ?hW _ _ _ _ ?hl ?hi ?hs ?R) ?kB ?kF ?kX ?kN ?kT ?kA ?kf ?kk ?k1 ?k2 ?k3 ?_); (case hl => (first | (with_reducible assumption) | assumption | exact Fr.lst (by assumption) (by assumption) | exact News.isL (by assumption) (by k_mem) | exact News.isLp (by assumption) (by k_mem) | exact News.isL0 (by assumption) (by k_mem) | exact ArgLst.at' (by assumption) (by assumption) (by assumption) (by assumption) (by ((intro p9 hp9; repeat (first | exact hp9 | refine List.Mem.tail _ ?_)))) | exact NewLst.at' (by assumption) (by assumption) (by ((intro p9 hp9; repeat (first | exact hp9 | refine List.Mem.tail _ ?_)))) | exact IsLst.at' (by assumption) (by assumption) (by assumption) (by ((intro p9 hp9; repeat (first | exact hp9 | refine List.Mem.tail _ ?_)))))); (case hi => (first | assumption | exact IntsAre.nil | exact .cons _ _ .nil | exact IntsAre.append (by assumption) (.cons _ _ .nil))); (case hs => (first | assumption | omega | (have e := ‹_ = (rangeKs _ _).length›; rw [rangeKs_length] at e; omega) | (simp only [List.length_append, List.length_cons, List.length_nil, List.length_replicate, List.length_take, List.length_drop]; omega))); (case R => (assumption)); (case hW => (first | assumption | omega)); (case kB => k_asm); (case kF => k_asm); (case kX => k_asm); (case kN => k_asm); (case kT => k_asm); (case kA => exact rfl); (case kf => exact rfl); (case kk => exact rfl); (case k1 => ktr_room); (case k2 => ktr_units); (case k3 => exact rfl); k_whole; intro i9 t9 h9 tk9 F9 N9 hp9; (have hp8 := hp9.symm); subst hp8; (try dsimp only); (try k_fold))) | (k_here; (with_reducible show wpAny _ _ (call (Value.ref 170) _ _) _ _ _); k_dflt ((with_unfolding_all refine' callL (row_fn _ _ _ _ ?hW _ _ ?hx ?hcap) ?kB ?kF ?kX ?kN ?kT ?kA ?kf ?kk ?k1 ?k2 ?k3 ?_); (case hW => (first | assumption | omega)); (case hx => (first | assumption | omega)); (case hcap => (first | assumption | omega)); (case kB => k_asm); (case kF => k_asm); (case kX => k_asm); (case kN => k_asm); (case kT => k_asm); (case kA => exact rfl); (case kf => exact rfl); (case kk => exact rfl); (case k1 => ktr_room); (case k2 => ktr_units); (case k3 => exact rfl); k_whole; intro la9 va9 n9 xs9 h9 tk9 F9 N9 ne9 hi9 hp9; (try dsimp only); (try k_fold))) | (first | ((with_reducible show wpAny _ _ (execs (_ :: _) _) _ _ _); walk1; refine wp_abs ?_; intro _ _; (try dsimp only)) | ((with_reducible refine use_abs (α := Flow) (by with_reducible assumption) ?_); (try (rename ∀ (_ : Flow) (_ : Shared), _ → _ => z9; clear z9)); (try (rename Flow → Shared → Prop => z8; clear z8)); (try dsimp only)) | (k_unfold; (try dsimp only)) | (k_end; kc_close) | walk1 | (dsimp only; walk1) | (leave1; (try dsimp only))))
  all_goals (try dsimp only)
  refine' ret _ _ _ (Fr.keep (by assumption)) (Exists.intro ?xs1 (Exists.intro ?ys1 (And.intro ?ro1 ?lo1)))
  case lo1 => exact TOut.mk (by assumption) (by k_mem) (by k_mem) (by k_mem) (by assumption) (by assumption)
  case ro1 => exact divrem_end R S hy (by assumption) (by assumption)

end FDivrem
local macro_rules | `(tactic| walk_at "compareOp Eq ref ref") => `(tactic| (k_here; k_dflt ((with_unfolding_all refine' eqI_false ?ha ?hb ?hi ?hj ?hn ?hu ?_); (case ha => (first | (with_reducible assumption) | assumption | exact Fr.lst (by assumption) (by assumption) | exact News.isL (by assumption) (by k_mem) | exact News.isLp (by assumption) (by k_mem) | exact News.isL0 (by assumption) (by k_mem) | exact ArgLst.at' (by assumption) (by assumption) (by assumption) (by assumption) (by ((intro p9 hp9; repeat (first | exact hp9 | refine List.Mem.tail _ ?_)))) | exact NewLst.at' (by assumption) (by assumption) (by ((intro p9 hp9; repeat (first | exact hp9 | refine List.Mem.tail _ ?_)))) | exact IsLst.at' (by assumption) (by assumption) (by assumption) (by ((intro p9 hp9; repeat (first | exact hp9 | refine List.Mem.tail _ ?_)))))); (case hb => (first | (with_reducible assumption) | assumption | exact Fr.lst (by assumption) (by assumption) | exact News.isL (by assumption) (by k_mem) | exact News.isLp (by assumption) (by k_mem) | exact News.isL0 (by assumption) (by k_mem) | exact ArgLst.at' (by assumption) (by assumption) (by assumption) (by assumption) (by ((intro p9 hp9; repeat (first | exact hp9 | refine List.Mem.tail _ ?_)))) | exact NewLst.at' (by assumption) (by assumption) (by ((intro p9 hp9; repeat (first | exact hp9 | refine List.Mem.tail _ ?_)))) | exact IsLst.at' (by assumption) (by assumption) (by assumption) (by ((intro p9 hp9; repeat (first | exact hp9 | refine List.Mem.tail _ ?_)))))); (case hi => (first | assumption | exact IntsAre.nil | exact .cons _ _ .nil | exact IntsAre.append (by assumption) (.cons _ _ .nil))); (case hj => (first | assumption | exact IntsAre.nil | exact .cons _ _ .nil | exact IntsAre.append (by assumption) (.cons _ _ .nil))); (case hn => assumption); (case hu => ktr_units))))
section FMake
theorem fill_FMake : PySem.Challenge.rw_nn0009_01.prog = PySem.Challenge.rw_nn0009_01.prog ∧ hd.heap_39 = hd.heap_39 := by
  w_top off
  k_fill
  exact ⟨rfl, rfl⟩
theorem make_end {W x : Int} {n l : Nat} {xs : List Int} (h : Row (bs W) xs (bs W ^ (2 * (n : Int)).toNat * 1 / x) ∧ xs.length ≤ l) (hl : l ≤ 2 * n + 1) : Row (bs W) xs (bs W ^ (2 * n) / x) ∧ xs.length ≤ 2 * n + 1 := by
  rw [Int.mul_one, show (2 * (n : Int)).toNat = 2 * n by omega] at h
  exact ⟨h.1, Nat.le_trans h.2 hl⟩
theorem make_fn (w : World) (g : Heap) (W : Int) (tw : Tok) (hW : 2 ≤ W ∧ W ≤ 9) (la : Addr) (va : List Value) (na : List Int) (x : Int) (hl : g.IsList la va.toArray) (hi : IntsAre va na) (hs : na.length ≤ 300) (R : Row (bs W) na x) (hne : na ≠ []) (hs4 : na.length ≤ 4) (hx : 0 < x) (dv : Value) (hdv : dv = .ref 191) :
    Fn 6 w 128 [.ref la, .int W tw, dv] g (fun v h' => ∃ ys, (Row (bs W) ys (bs W ^ (2 * na.length) / x) ∧ ys.length ≤ 2 * na.length + 1) ∧ UOut g la ys v h') := by
  subst hdv
  with_unfolding_all refine' enter2 ?k6 ?k7 ?k9 ?kB ?c5 ?c2 ?c3 ?c4 ?_
  case k6 => k_is
  case k7 => k_is
  case k9 => intro s; exact BindsTo.of_eq rfl
  case kB => exact locs rfl
  case c5 => decide
  case c2 => exact rfl
  case c3 => exact rfl
  case c4 => exact rfl
  dsimp only [fnOf]
  intro dp un gd outer base A₀ p loose mean mg mb L' h₁ gn dr tk os Q' hdp hun B' X' T' F' N' ret
  have hone := one_row hW
  repeat' (first | (k_here; (with_reducible show wpAny _ _ (call (Value.ref 86) _ _) _ _ _); k_dflt ((with_unfolding_all refine' callL (lifted_fn _ _ _ (0 : Nat) ?hW _ _ _ _ ?hl ?hi ?hs ?R _ _ ?hk) ?kB ?kF ?kX ?kN ?kT ?kA ?kf ?kk ?k1 ?k2 ?k3 ?_); (case hl => (first | (with_reducible assumption) | assumption | exact Fr.lst (by assumption) (by assumption) | exact News.isL (by assumption) (by k_mem) | exact News.isLp (by assumption) (by k_mem) | exact News.isL0 (by assumption) (by k_mem) | exact ArgLst.at' (by assumption) (by assumption) (by assumption) (by assumption) (by ((intro p9 hp9; repeat (first | exact hp9 | refine List.Mem.tail _ ?_)))) | exact NewLst.at' (by assumption) (by assumption) (by ((intro p9 hp9; repeat (first | exact hp9 | refine List.Mem.tail _ ?_)))) | exact IsLst.at' (by assumption) (by assumption) (by assumption) (by ((intro p9 hp9; repeat (first | exact hp9 | refine List.Mem.tail _ ?_)))))); (case hi => (first | assumption | exact IntsAre.nil | exact .cons _ _ .nil | exact IntsAre.append (by assumption) (.cons _ _ .nil))); (case hs => (first | assumption | omega | (have e := ‹_ = (rangeKs _ _).length›; rw [rangeKs_length] at e; omega) | (simp only [List.length_append, List.length_cons, List.length_nil, List.length_replicate, List.length_take, List.length_drop]; omega))); (case R => (assumption)); (case hW => (first | assumption | omega)); (case hk => (first | assumption | omega)); (case kB => k_asm); (case kF => k_asm); (case kX => k_asm); (case kN => k_asm); (case kT => k_asm); (case kA => exact rfl); (case kf => exact rfl); (case kk => exact rfl); (case k1 => ktr_room); (case k2 => ktr_units); (case k3 => exact rfl); k_whole; intro la9 va9 n9 xs9 h9 tk9 F9 N9 ne9 hi9 hp9; obtain ⟨hr9, hq9⟩ := hp9; (try simp only [List.length_cons, List.length_nil] at hq9); (try dsimp only); (try k_fold))) | (k_here; (with_reducible show wpAny _ _ (call (Value.ref 191) _ _) _ _ _); k_dflt ((with_unfolding_all refine' callT (divrem_fn _ _ _ _ ?hW _ _ _ _ ?hl ?hi ?hs ?R _ _ _ _ ?hlb ?hib ?hsb ?S ?hy) ?kB ?kF ?kX ?kN ?kT ?kA ?kf ?kk ?k1 ?k2 ?k3 ?_); (case hl => (first | (with_reducible assumption) | assumption | exact Fr.lst (by assumption) (by assumption) | exact News.isL (by assumption) (by k_mem) | exact News.isLp (by assumption) (by k_mem) | exact News.isL0 (by assumption) (by k_mem) | exact ArgLst.at' (by assumption) (by assumption) (by assumption) (by assumption) (by ((intro p9 hp9; repeat (first | exact hp9 | refine List.Mem.tail _ ?_)))) | exact NewLst.at' (by assumption) (by assumption) (by ((intro p9 hp9; repeat (first | exact hp9 | refine List.Mem.tail _ ?_)))) | exact IsLst.at' (by assumption) (by assumption) (by assumption) (by ((intro p9 hp9; repeat (first | exact hp9 | refine List.Mem.tail _ ?_)))))); (case hi => (first | assumption | exact IntsAre.nil | exact .cons _ _ .nil | exact IntsAre.append (by assumption) (.cons _ _ .nil))); (case hs => (first | assumption | omega | (have e := ‹_ = (rangeKs _ _).length›; rw [rangeKs_length] at e; omega) | (simp only [List.length_append, List.length_cons, List.length_nil, List.length_replicate, List.length_take, List.length_drop]; omega))); (case R => (assumption)); (case hlb => (first | (with_reducible assumption) | assumption | exact Fr.lst (by assumption) (by assumption) | exact News.isL (by assumption) (by k_mem) | exact News.isLp (by assumption) (by k_mem) | exact News.isL0 (by assumption) (by k_mem) | exact ArgLst.at' (by assumption) (by assumption) (by assumption) (by assumption) (by ((intro p9 hp9; repeat (first | exact hp9 | refine List.Mem.tail _ ?_)))) | exact NewLst.at' (by assumption) (by assumption) (by ((intro p9 hp9; repeat (first | exact hp9 | refine List.Mem.tail _ ?_)))) | exact IsLst.at' (by assumption) (by assumption) (by assumption) (by ((intro p9 hp9; repeat (first | exact hp9 | refine List.Mem.tail _ ?_)))))); (case hib => (first | assumption | exact IntsAre.nil | exact .cons _ _ .nil | exact IntsAre.append (by assumption) (.cons _ _ .nil))); (case hsb => (first | assumption | omega | (have e := ‹_ = (rangeKs _ _).length›; rw [rangeKs_length] at e; omega) | (simp only [List.length_append, List.length_cons, List.length_nil, List.length_replicate, List.length_take, List.length_drop]; omega))); (case S => (assumption)); (case hW => (first | assumption | omega)); (case hy => (first | assumption | omega)); (case kB => k_asm); (case kF => k_asm); (case kX => k_asm); (case kN => k_asm); (case kT => k_asm); (case kA => exact rfl); (case kf => exact rfl); (case kk => exact rfl); (case k1 => ktr_room); (case k2 => ktr_units); (case k3 => exact rfl); k_whole; intro tt9 la9 lb9 va9 n9 vb9 nb9 xs9 ys9 h9 tk9 F9 N9 hi9 hib9 hp9; obtain ⟨hr9, hq9⟩ := hp9; (try simp only [List.length_cons, List.length_nil] at hq9); (try dsimp only); (try k_fold))) | (first | ((with_reducible show wpAny _ _ (execs (_ :: _) _) _ _ _); walk1; refine wp_abs ?_; intro _ _; (try dsimp only)) | ((with_reducible refine use_abs (α := Flow) (by with_reducible assumption) ?_); (try (rename ∀ (_ : Flow) (_ : Shared), _ → _ => z9; clear z9)); (try (rename Flow → Shared → Prop => z8; clear z8)); (try dsimp only)) | (k_unfold; (try dsimp only)) | (k_end; kc_close) | walk1 | (dsimp only; walk1) | (leave1; (try dsimp only))))
  all_goals (try dsimp only)
  refine' ret _ _ _ (Fr.keep (by assumption)) (Exists.intro ?ys1 (And.intro ?ro1 ?lo1))
  case lo1 => exact UOut.mk (by assumption) (by k_mem) (by k_mem) (by assumption)
  case ro1 => exact make_end (by assumption) (by omega)

end FMake
local macro_rules | `(tactic| walk_at "binaryOp Mod int int") => `(tactic| (k_here; (with_reducible refine PyProof.Rows.mod_int' ?nz ?_); (case nz => first | (with_reducible assumption) | omega)))
local macro_rules | `(tactic| walk_at "binaryOp FloorDiv int int") => `(tactic| (k_here; (with_reducible refine PyProof.Rows.floordiv_int ?nz ?_ (Or.inl (PyProof.noPylong_of_log2 ?lg))); (case nz => first | (with_reducible assumption) | decide); (case lg => with_reducible assumption)))
local macro_rules | `(tactic| walk_at "binaryOp Mult int int") => `(tactic| (k_here; (with_reducible refine PyProof.Rows.mul_int (hm := ?hm) ?_); (case hm => first | exact IntMulOk.of_right (by with_reducible assumption) | exact IntMulOk.of_left (by with_reducible assumption))))
local macro_rules | `(tactic| walk_at "binaryOp Pow int int") => `(tactic| (k_here; (with_reducible refine PyProof.Rows.pow_int_small ?kb1 ?kb2 ?kb3 ?_); (case kb1 => first | decide | omega); (case kb2 => first | decide | omega); (case kb3 => decide)))
section FDraw
theorem fill_FDraw : PySem.Challenge.rw_nn0009_01.prog = PySem.Challenge.rw_nn0009_01.prog ∧ hd.heap_39 = hd.heap_39 := by
  w_top off
  k_fill
  exact ⟨rfl, rfl⟩
theorem exists_abs {x m c : Int} (h : 0 ≤ x.fmod m ∧ x.fmod m < c) : ∃ y, (0 ≤ y ∧ y < c) ∧ x.fmod m = y := ⟨_, h, rfl⟩
theorem draw_fn (w : World) (g : Heap) (b l : Addr) (its : List Value) (xs : List Int) (i : Int) (t : Tok) (r : Int) (u : Tok) (nb : Nat) (hb : g.get? b = some (boxOf i t l r u nb)) (hl : (hide g b).IsList l its.toArray) (hi : IntsAre its xs) (hs : xs.length ≤ 63) (hi0 : -1 ≤ i ∧ i ≤ 100) (hr : 0 ≤ r ∧ r < 18446744073709551616) (many : Int) (tm : Tok) (hm : 1 ≤ many) :
    FnB 1 w 198 [.ref b, .int many tm] g b (fun v h' => ∃ k tk bo', ((0 ≤ k ∧ k < many) ∧ BoxIs l (i + 1) bo') ∧ v = .int k tk ∧ h'.get? b = some bo') := by
  with_unfolding_all refine' enterB2 hb ?k6 ?k7 ?k9 ?kB ?c5 ?c2 ?c3 ?c4 ?_
  case k6 => k_is
  case k7 => k_is
  case k9 => intro s; exact BindsTo.of_eq rfl
  case kB => exact locs rfl
  case c5 => decide
  case c2 => exact rfl
  case c3 => exact rfl
  case c4 => exact rfl
  dsimp only [fnOf]
  intro dp un gd outer base A₀ p loose mean mg mb L' h₁ gn dr tk os Q' hdp hun B' X' T' F' N' ret
  have z1 := nz64
  have z2 := nz16
  have z3 := lg16
  have z4 := lg3
  have z5 := b40
  have z6 := bits_r hr
  iterate 70 (first | (first | (k_here; (with_reducible show wpAny _ _ (call (Value.ref 58) _ _) _ _ _); k_dflt ((with_unfolding_all refine' callL (normal_fn _ _ _ ?hB _ _ _ ?hl ?hi ?hs ?hLim) ?kB ?kF ?kX ?kN ?kT ?kA ?kf ?kk ?k1 ?k2 ?k3 ?_); (case hl => (first | (with_reducible assumption) | assumption | exact Fr.lst (by assumption) (by assumption) | exact News.isL (by assumption) (by k_mem) | exact News.isLp (by assumption) (by k_mem) | exact News.isL0 (by assumption) (by k_mem) | exact ArgLst.at' (by assumption) (by assumption) (by assumption) (by assumption) (by ((intro p9 hp9; repeat (first | exact hp9 | refine List.Mem.tail _ ?_)))) | exact NewLst.at' (by assumption) (by assumption) (by ((intro p9 hp9; repeat (first | exact hp9 | refine List.Mem.tail _ ?_)))) | exact IsLst.at' (by assumption) (by assumption) (by assumption) (by ((intro p9 hp9; repeat (first | exact hp9 | refine List.Mem.tail _ ?_)))))); (case hi => (first | assumption | exact IntsAre.nil | exact .cons _ _ .nil | exact IntsAre.append (by assumption) (.cons _ _ .nil))); (case hs => (first | assumption | omega | (have e := ‹_ = (rangeKs _ _).length›; rw [rangeKs_length] at e; omega) | (simp only [List.length_append, List.length_cons, List.length_nil, List.length_replicate, List.length_take, List.length_drop]; omega))); (case hLim => (first | assumption | exact Lim.take (Lim.drop (Row.lim (by assumption)) _) _)); (case hB => exact bs_pos _); (case kB => k_asm); (case kF => k_asm); (case kX => k_asm); (case kN => k_asm); (case kT => k_asm); (case kA => exact rfl); (case kf => exact rfl); (case kk => exact rfl); (case k1 => ktr_room); (case k2 => ktr_units); (case k3 => exact rfl); k_whole; intro la9 va9 n9 xs9 h9 tk9 F9 N9 ne9 hi9 hp9; (try dsimp only); (try k_fold))) | (first | ((with_reducible show wpAny _ _ (execs (_ :: _) _) _ _ _); walk1; refine wp_abs ?_; intro _ _; (try dsimp only)) | ((with_reducible refine use_abs (α := Flow) (by with_reducible assumption) ?_); (try (rename ∀ (_ : Flow) (_ : Shared), _ → _ => z9; clear z9)); (try (rename Flow → Shared → Prop => z8; clear z8)); (try dsimp only)) | (k_unfold; (try dsimp only)) | (k_end; kc_close) | walk1 | (dsimp only; walk1) | (leave1; (try dsimp only)))) | skip)
  · (try dsimp only)
    refine' ret _ _ _ (Fr.keep (by assumption)) (Exists.intro _ (Exists.intro _ (Exists.intro _ (And.intro ?ra1 (And.intro rfl ?rb1)))))
    case rb1 => exact News.get (by assumption) (by k_mem)
    case ra1 => exact ⟨fmod_in (by omega), ⟨_, _, _, _, rfl, hr⟩⟩
  iterate 30 (first | (first | (k_here; (with_reducible show wpAny _ _ (call (Value.ref 58) _ _) _ _ _); k_dflt ((with_unfolding_all refine' callL (normal_fn _ _ _ ?hB _ _ _ ?hl ?hi ?hs ?hLim) ?kB ?kF ?kX ?kN ?kT ?kA ?kf ?kk ?k1 ?k2 ?k3 ?_); (case hl => (first | (with_reducible assumption) | assumption | exact Fr.lst (by assumption) (by assumption) | exact News.isL (by assumption) (by k_mem) | exact News.isLp (by assumption) (by k_mem) | exact News.isL0 (by assumption) (by k_mem) | exact ArgLst.at' (by assumption) (by assumption) (by assumption) (by assumption) (by ((intro p9 hp9; repeat (first | exact hp9 | refine List.Mem.tail _ ?_)))) | exact NewLst.at' (by assumption) (by assumption) (by ((intro p9 hp9; repeat (first | exact hp9 | refine List.Mem.tail _ ?_)))) | exact IsLst.at' (by assumption) (by assumption) (by assumption) (by ((intro p9 hp9; repeat (first | exact hp9 | refine List.Mem.tail _ ?_)))))); (case hi => (first | assumption | exact IntsAre.nil | exact .cons _ _ .nil | exact IntsAre.append (by assumption) (.cons _ _ .nil))); (case hs => (first | assumption | omega | (have e := ‹_ = (rangeKs _ _).length›; rw [rangeKs_length] at e; omega) | (simp only [List.length_append, List.length_cons, List.length_nil, List.length_replicate, List.length_take, List.length_drop]; omega))); (case hLim => (first | assumption | exact Lim.take (Lim.drop (Row.lim (by assumption)) _) _)); (case hB => exact bs_pos _); (case kB => k_asm); (case kF => k_asm); (case kX => k_asm); (case kN => k_asm); (case kT => k_asm); (case kA => exact rfl); (case kf => exact rfl); (case kk => exact rfl); (case k1 => ktr_room); (case k2 => ktr_units); (case k3 => exact rfl); k_whole; intro la9 va9 n9 xs9 h9 tk9 F9 N9 ne9 hi9 hp9; (try dsimp only); (try k_fold))) | (first | ((with_reducible show wpAny _ _ (execs (_ :: _) _) _ _ _); walk1; refine wp_abs ?_; intro _ _; (try dsimp only)) | ((with_reducible refine use_abs (α := Flow) (by with_reducible assumption) ?_); (try (rename ∀ (_ : Flow) (_ : Shared), _ → _ => z9; clear z9)); (try (rename Flow → Shared → Prop => z8; clear z8)); (try dsimp only)) | (k_unfold; (try dsimp only)) | (k_end; kc_close) | walk1 | (dsimp only; walk1) | (leave1; (try dsimp only)))) | skip)
  have hrr := next_r (r * 6364136223846793005 + 1442695040888963407 + (i + 1))
  have e9 := exists_abs hrr
  clear hrr
  obtain ⟨rr, hrr, e9⟩ := e9
  rename News _ _ _ _ => N9
  with_reducible (rw [e9] at N9)
  have z7 := bits_r hrr
  clear z6
  iterate 30 (first | (first | (k_here; (with_reducible show wpAny _ _ (call (Value.ref 58) _ _) _ _ _); k_dflt ((with_unfolding_all refine' callL (normal_fn _ _ _ ?hB _ _ _ ?hl ?hi ?hs ?hLim) ?kB ?kF ?kX ?kN ?kT ?kA ?kf ?kk ?k1 ?k2 ?k3 ?_); (case hl => (first | (with_reducible assumption) | assumption | exact Fr.lst (by assumption) (by assumption) | exact News.isL (by assumption) (by k_mem) | exact News.isLp (by assumption) (by k_mem) | exact News.isL0 (by assumption) (by k_mem) | exact ArgLst.at' (by assumption) (by assumption) (by assumption) (by assumption) (by ((intro p9 hp9; repeat (first | exact hp9 | refine List.Mem.tail _ ?_)))) | exact NewLst.at' (by assumption) (by assumption) (by ((intro p9 hp9; repeat (first | exact hp9 | refine List.Mem.tail _ ?_)))) | exact IsLst.at' (by assumption) (by assumption) (by assumption) (by ((intro p9 hp9; repeat (first | exact hp9 | refine List.Mem.tail _ ?_)))))); (case hi => (first | assumption | exact IntsAre.nil | exact .cons _ _ .nil | exact IntsAre.append (by assumption) (.cons _ _ .nil))); (case hs => (first | assumption | omega | (have e := ‹_ = (rangeKs _ _).length›; rw [rangeKs_length] at e; omega) | (simp only [List.length_append, List.length_cons, List.length_nil, List.length_replicate, List.length_take, List.length_drop]; omega))); (case hLim => (first | assumption | exact Lim.take (Lim.drop (Row.lim (by assumption)) _) _)); (case hB => exact bs_pos _); (case kB => k_asm); (case kF => k_asm); (case kX => k_asm); (case kN => k_asm); (case kT => k_asm); (case kA => exact rfl); (case kf => exact rfl); (case kk => exact rfl); (case k1 => ktr_room); (case k2 => ktr_units); (case k3 => exact rfl); k_whole; intro la9 va9 n9 xs9 h9 tk9 F9 N9 ne9 hi9 hp9; (try dsimp only); (try k_fold))) | (first | ((with_reducible show wpAny _ _ (execs (_ :: _) _) _ _ _); walk1; refine wp_abs ?_; intro _ _; (try dsimp only)) | ((with_reducible refine use_abs (α := Flow) (by with_reducible assumption) ?_); (try (rename ∀ (_ : Flow) (_ : Shared), _ → _ => z9; clear z9)); (try (rename Flow → Shared → Prop => z8; clear z8)); (try dsimp only)) | (k_unfold; (try dsimp only)) | (k_end; kc_close) | walk1 | (dsimp only; walk1) | (leave1; (try dsimp only)))) | skip)
  · (try dsimp only)
    refine' ret _ _ _ (Fr.keep (by assumption)) (Exists.intro _ (Exists.intro _ (Exists.intro _ (And.intro ?ra2 (And.intro rfl ?rb2)))))
    case rb2 => exact News.get (by assumption) (by k_mem)
    case ra2 => exact ⟨fmod_in (by omega), ⟨_, _, _, _, rfl, hrr⟩⟩
  iterate 50 (first | (first | (k_here; (with_reducible show wpAny _ _ (call (Value.ref 58) _ _) _ _ _); k_dflt ((with_unfolding_all refine' callL (normal_fn _ _ _ ?hB _ _ _ ?hl ?hi ?hs ?hLim) ?kB ?kF ?kX ?kN ?kT ?kA ?kf ?kk ?k1 ?k2 ?k3 ?_); (case hl => (first | (with_reducible assumption) | assumption | exact Fr.lst (by assumption) (by assumption) | exact News.isL (by assumption) (by k_mem) | exact News.isLp (by assumption) (by k_mem) | exact News.isL0 (by assumption) (by k_mem) | exact ArgLst.at' (by assumption) (by assumption) (by assumption) (by assumption) (by ((intro p9 hp9; repeat (first | exact hp9 | refine List.Mem.tail _ ?_)))) | exact NewLst.at' (by assumption) (by assumption) (by ((intro p9 hp9; repeat (first | exact hp9 | refine List.Mem.tail _ ?_)))) | exact IsLst.at' (by assumption) (by assumption) (by assumption) (by ((intro p9 hp9; repeat (first | exact hp9 | refine List.Mem.tail _ ?_)))))); (case hi => (first | assumption | exact IntsAre.nil | exact .cons _ _ .nil | exact IntsAre.append (by assumption) (.cons _ _ .nil))); (case hs => (first | assumption | omega | (have e := ‹_ = (rangeKs _ _).length›; rw [rangeKs_length] at e; omega) | (simp only [List.length_append, List.length_cons, List.length_nil, List.length_replicate, List.length_take, List.length_drop]; omega))); (case hLim => (first | assumption | exact Lim.take (Lim.drop (Row.lim (by assumption)) _) _)); (case hB => exact bs_pos _); (case kB => k_asm); (case kF => k_asm); (case kX => k_asm); (case kN => k_asm); (case kT => k_asm); (case kA => exact rfl); (case kf => exact rfl); (case kk => exact rfl); (case k1 => ktr_room); (case k2 => ktr_units); (case k3 => exact rfl); k_whole; intro la9 va9 n9 xs9 h9 tk9 F9 N9 ne9 hi9 hp9; (try dsimp only); (try k_fold))) | (first | ((with_reducible show wpAny _ _ (execs (_ :: _) _) _ _ _); walk1; refine wp_abs ?_; intro _ _; (try dsimp only)) | ((with_reducible refine use_abs (α := Flow) (by with_reducible assumption) ?_); (try (rename ∀ (_ : Flow) (_ : Shared), _ → _ => z9; clear z9)); (try (rename Flow → Shared → Prop => z8; clear z8)); (try dsimp only)) | (k_unfold; (try dsimp only)) | (k_end; kc_close) | walk1 | (dsimp only; walk1) | (leave1; (try dsimp only)))) | skip)
  · (try dsimp only)
    refine' ret _ _ _ (Fr.keep (by assumption)) (Exists.intro _ (Exists.intro _ (Exists.intro _ (And.intro ?ra3 (And.intro rfl ?rb3)))))
    case rb3 => exact News.get (by assumption) (by k_mem)
    case ra3 => exact ⟨fmod_in (by omega), ⟨_, _, _, _, rfl, hrr⟩⟩

end FDraw
section FSize
theorem fill_FSize : PySem.Challenge.rw_nn0009_01.prog = PySem.Challenge.rw_nn0009_01.prog ∧ hd.heap_39 = hd.heap_39 := by
  w_top off
  k_fill
  exact ⟨rfl, rfl⟩
theorem wl_facts {W k m : Int} (hW : 2 ≤ W ∧ W ≤ 9) (hm : m ≤ 12) (hk : 0 ≤ k ∧ k < m) : 2 ≤ W * (1 + k) ∧ W * (1 + k) ≤ 108 ∧ 0 ≤ W * (1 + k - 1) ∧ W * (1 + k - 1) ≤ 108 ∧ W * (1 + k - 1) + 2 ≤ W * (1 + k) := by
  have a : W * 1 ≤ W * (1 + k) := Int.mul_le_mul_of_nonneg_left (by omega) (by omega)
  have b : W * (1 + k) ≤ 9 * (1 + k) := Int.mul_le_mul_of_nonneg_right hW.2 (by omega)
  have c : 0 ≤ W * (1 + k - 1) := Int.mul_nonneg (by omega) (by omega)
  have d : W * (1 + k - 1) = W * (1 + k) - W := by rw [Int.mul_sub, Int.mul_one]
  omega
theorem size_fn (w : World) (g : Heap) (b l : Addr) (its : List Value) (xs : List Int) (i : Int) (t : Tok) (r : Int) (u : Tok) (nb : Nat) (hb : g.get? b = some (boxOf i t l r u nb)) (hl : (hide g b).IsList l its.toArray) (hi : IntsAre its xs) (hs : xs.length ≤ 63) (hi0 : -1 ≤ i ∧ i ≤ 50) (hr : 0 ≤ r ∧ r < 18446744073709551616) (W : Int) (tw : Tok) (hW : 2 ≤ W ∧ W ≤ 9) (mo : Int) (tm : Tok) (hm : 1 ≤ mo ∧ mo ≤ 12) :
    FnB 2 w 205 [.ref b, .int W tw, .int mo tm] g b (fun v h' => ∃ k tk bo', ((0 ≤ k ∧ k < bs W ^ mo.toNat) ∧ ∃ i', (-1 ≤ i' ∧ i' ≤ i + 3) ∧ BoxIs l i' bo') ∧ v = .int k tk ∧ h'.get? b = some bo') := by
  with_unfolding_all refine' enterB2 hb ?k6 ?k7 ?k9 ?kB ?c5 ?c2 ?c3 ?c4 ?_
  case k6 => k_is
  case k7 => k_is
  case k9 => intro s; exact BindsTo.of_eq rfl
  case kB => exact locs rfl
  case c5 => decide
  case c2 => exact rfl
  case c3 => exact rfl
  case c4 => exact rfl
  dsimp only [fnOf]
  intro dp un gd outer base A₀ p loose mean mg mb L' h₁ gn dr tk os Q' hdp hun B' X' T' F' N' ret
  have hlb : l ≠ b := by
    rintro rfl
    obtain ⟨o, ho, _⟩ := hl
    rw [hide_self] at ho
    cases ho
  have hm12 : mo ≤ 12 := hm.2
  repeat' (first | (k_here; (with_reducible show wpAny _ _ (call (Value.ref 198) _ _) _ _ _); k_dflt ((with_unfolding_all refine' callB (draw_fn _ _ _ _ _ _ _ _ _ _ _ ?hb ?hl ?hi ?hs ?hi0 ?hr _ _ ?hm) ?kB ?kF ?kX ?kN ?kT ?kA ?kf ?kk ?k1 ?k2 ?k3 ?kU ?_); (case hb => exact News.get (by assumption) (by k_mem)); (case hl => (first | (refine hide_list ?hk9 ?hn9; (case hk9 => (first | (with_reducible assumption) | assumption | exact Fr.lst (by assumption) (by assumption) | exact News.isL (by assumption) (by k_mem) | exact News.isLp (by assumption) (by k_mem) | exact News.isL0 (by assumption) (by k_mem) | exact ArgLst.at' (by assumption) (by assumption) (by assumption) (by assumption) (by ((intro p9 hp9; repeat (first | exact hp9 | refine List.Mem.tail _ ?_)))) | exact NewLst.at' (by assumption) (by assumption) (by ((intro p9 hp9; repeat (first | exact hp9 | refine List.Mem.tail _ ?_)))) | exact IsLst.at' (by assumption) (by assumption) (by assumption) (by ((intro p9 hp9; repeat (first | exact hp9 | refine List.Mem.tail _ ?_)))))); (case hn9 => first | assumption | k_ne)))); (case hi => (first | assumption | exact IntsAre.nil | exact .cons _ _ .nil | exact IntsAre.append (by assumption) (.cons _ _ .nil))); (case hs => (first | assumption | omega)); (case hi0 => (first | (first | assumption | omega | exact one_le_two _) | (first | assumption | omega))); (case hr => assumption); (case hm => (first | (first | assumption | omega | exact one_le_two _) | (first | assumption | omega))); (case kB => k_asm); (case kF => k_asm); (case kX => k_asm); (case kN => k_asm); (case kT => k_asm); (case kA => exact rfl); (case kf => exact rfl); (case kk => exact rfl); (case k1 => ktr_room); (case k2 => ktr_units); (case k3 => exact rfl); (case kU => (((try simp only [List.append_eq, List.cons_append, List.nil_append]); repeat (first | exact UpdF.head (by k_all) | refine UpdF.tail (by k_ne) ?_)))); k_whole; intro i9 t9 bo9 h9 tk9 F9 N9 hp9; (try simp only [List.append_eq, List.cons_append, List.nil_append] at N9); obtain ⟨hd9, tb9, rb9, ub9, nb9, eb9, hr9⟩ := hp9; subst eb9; (first | ((first | (have hw9 := wl_facts (by assumption) (by assumption) (by assumption)) | skip)) | (skip)); (try dsimp only); (try k_fold))) | (first | ((with_reducible show wpAny _ _ (execs (_ :: _) _) _ _ _); walk1; refine wp_abs ?_; intro _ _; (try dsimp only)) | ((with_reducible refine use_abs (α := Flow) (by with_reducible assumption) ?_); (try (rename ∀ (_ : Flow) (_ : Shared), _ → _ => z9; clear z9)); (try (rename Flow → Shared → Prop => z8; clear z8)); (try dsimp only)) | (k_unfold; (try dsimp only)) | (k_end; kc_close) | walk1 | (dsimp only; walk1) | (leave1; (try dsimp only))))
  all_goals (try dsimp only)
  all_goals (refine' ret _ _ _ (Fr.keep (by assumption)) (Exists.intro _ (Exists.intro _ (Exists.intro _ (And.intro (And.intro ?ra1 (Exists.intro _ (And.intro ?rc1 ⟨_, _, _, _, rfl, ?rd1⟩))) (And.intro rfl ?rb1))))); (case rb1 => exact News.get (by assumption) (by k_mem)); (case rd1 => assumption); (case rc1 => omega); (case ra1 => (first | exact size_of hW.1 (by assumption) (size_two (by omega) (by omega)) | exact size_of (k := _) hW.1 (by assumption) (size_pow (by omega) (by omega) (by omega)) | exact size_of hW.1 (by assumption) size_top | exact size_of hW.1 (by assumption) (by assumption))))

end FSize
section FBox
theorem fill_FBox : PySem.Challenge.rw_nn0009_01.prog = PySem.Challenge.rw_nn0009_01.prog ∧ hd.heap_39 = hd.heap_39 := by
  w_top off
  k_fill
  exact ⟨rfl, rfl⟩
theorem box_fn (w : World) (g : Heap) (la : Addr) (va : List Value) (na : List Int) (hl : g.IsList la va.toArray) (hi : IntsAre va na) (hs : na.length ≤ 63) (tm : Tok) :
    Fn 2 w 210 [.ref la, .int 24 tm] g (fun v h' => ∃ b l t r u n its k xs, v = .ref b ∧ h'.get? b = some (boxOf (-1) t l r u n) ∧ h'.get? l = some (listOf its.toArray k) ∧ IntsAre its xs ∧ xs.length ≤ 63 ∧ 0 ≤ r ∧ r < 18446744073709551616 ∧ g.get? b = none ∧ g.get? l = none ∧ l ≠ b) := by
  with_unfolding_all refine' enter2 ?k6 ?k7 ?k9 ?kB ?c5 ?c2 ?c3 ?c4 ?_
  case k6 => k_is
  case k7 => k_is
  case k9 => intro s; exact BindsTo.of_eq rfl
  case kB => exact locs rfl
  case c5 => decide
  case c2 => exact rfl
  case c3 => exact rfl
  case c4 => exact rfl
  dsimp only [fnOf]
  intro dp un gd outer base A₀ p loose mean mg mb L' h₁ gn dr tk os Q' hdp hun B' X' T' F' N' ret
  k_with "pyIter ref" => (k_dflt ((rename PyProof.Rows.Fr _ _ _ _ => lF'); (rename PyProof.Rows.News _ _ _ _ => lN'); (with_unfolding_all refine' box_loop rfl ?hi lF' lN' (by decide) ?_ ?_); (case hi => assumption); (all_goals clear lF' lN'); (all_goals intros)))
  repeat' (first | (k_here; (with_reducible show wpAny _ _ (call (Value.ref 58) _ _) _ _ _); k_dflt ((with_unfolding_all refine' callL (normal_fn _ _ _ ?hB _ _ _ ?hl ?hi ?hs ?hLim) ?kB ?kF ?kX ?kN ?kT ?kA ?kf ?kk ?k1 ?k2 ?k3 ?_); (case hl => (first | (with_reducible assumption) | assumption | exact Fr.lst (by assumption) (by assumption) | exact News.isL (by assumption) (by k_mem) | exact News.isLp (by assumption) (by k_mem) | exact News.isL0 (by assumption) (by k_mem) | exact ArgLst.at' (by assumption) (by assumption) (by assumption) (by assumption) (by ((intro p9 hp9; repeat (first | exact hp9 | refine List.Mem.tail _ ?_)))) | exact NewLst.at' (by assumption) (by assumption) (by ((intro p9 hp9; repeat (first | exact hp9 | refine List.Mem.tail _ ?_)))) | exact IsLst.at' (by assumption) (by assumption) (by assumption) (by ((intro p9 hp9; repeat (first | exact hp9 | refine List.Mem.tail _ ?_)))))); (case hi => (first | assumption | exact IntsAre.nil | exact .cons _ _ .nil | exact IntsAre.append (by assumption) (.cons _ _ .nil))); (case hs => (first | assumption | omega | (have e := ‹_ = (rangeKs _ _).length›; rw [rangeKs_length] at e; omega) | (simp only [List.length_append, List.length_cons, List.length_nil, List.length_replicate, List.length_take, List.length_drop]; omega))); (case hLim => (first | assumption | exact Lim.take (Lim.drop (Row.lim (by assumption)) _) _)); (case hB => exact bs_pos _); (case kB => k_asm); (case kF => k_asm); (case kX => k_asm); (case kN => k_asm); (case kT => k_asm); (case kA => exact rfl); (case kf => exact rfl); (case kk => exact rfl); (case k1 => ktr_room); (case k2 => ktr_units); (case k3 => exact rfl); k_whole; intro la9 va9 n9 xs9 h9 tk9 F9 N9 ne9 hi9 hp9; (try dsimp only); (try k_fold))) | (first | ((with_reducible show wpAny _ _ (execs (_ :: _) _) _ _ _); walk1; refine wp_abs ?_; intro _ _; (try dsimp only)) | ((with_reducible refine use_abs (α := Flow) (by with_reducible assumption) ?_); (try (rename ∀ (_ : Flow) (_ : Shared), _ → _ => z9; clear z9)); (try (rename Flow → Shared → Prop => z8; clear z8)); (try dsimp only)) | (k_unfold; (try dsimp only)) | (k_end; kc_close) | walk1 | (dsimp only; walk1) | (leave1; (try dsimp only))))
  all_goals (try dsimp only)
  · refine' InvEndN.intro (by assumption) (by assumption) (Exists.intro (_, _) (And.intro rfl (And.intro trivial (And.intro (fun _ h => nomatch h) (And.intro ?same ?bnd))))) ?ha ?hn ?ho
    case hn =>
      dsimp only
      refine List.forall_mem_cons.mpr ⟨?_, ?_⟩
      · k_mem
      · intro p hp
        first | exact .tail _ hp | exact .tail _ (List.mem_append.mpr (.inl hp)) | exact List.mem_append.mpr (.inl (.tail _ hp)) | (simp only [List.mem_cons, List.mem_append] at hp ⊢; rcases hp with hp | hp | hp <;> simp_all)
    case ho => first | (intro p hp; k_ownIn) | (intro p hp; simp only [List.mem_cons, List.mem_append]; simp [hp])
    case same =>
      intro z h1 _ _
      simp [h1, kstB]
    case bnd => exact next_r _
    case ha => rfl
  · rename News _ _ _ _ => N9
    rename 0 ≤ Prod.fst _ ∧ _ => hb9
    dsimp only at N9 hb9
    refine' ret _ _ _ (Fr.keep (by assumption)) ⟨_, _, _, _, _, _, _, _, _, rfl, ?g1, ?g2, ?g3, ?g4, hb9.1, hb9.2, ?g5, ?g6, ?g7⟩
    case g1 => exact N9.get (by k_mem)
    case g2 => exact N9.get (by k_mem)
    case g3 => assumption
    case g4 => (simp only [List.length_map, List.length_take] at *; omega)
    case g5 => exact N9.fresh (by k_mem)
    case g6 => exact N9.fresh (by k_mem)
    case g7 => first | k_ne | omega

end FBox
local macro_rules | `(tactic| walk_at "compareOp Eq ref ref") => `(tactic| (k_here; k_dflt ((with_unfolding_all refine' eqI_ite ?ha ?hb ?hi ?hj ?hu ?_ ?_); (case ha => (first | (with_reducible assumption) | assumption | exact Fr.lst (by assumption) (by assumption) | exact News.isL (by assumption) (by k_mem) | exact News.isLp (by assumption) (by k_mem) | exact News.isL0 (by assumption) (by k_mem) | exact ArgLst.at' (by assumption) (by assumption) (by assumption) (by assumption) (by ((intro p9 hp9; repeat (first | exact hp9 | refine List.Mem.tail _ ?_)))) | exact NewLst.at' (by assumption) (by assumption) (by ((intro p9 hp9; repeat (first | exact hp9 | refine List.Mem.tail _ ?_)))) | exact IsLst.at' (by assumption) (by assumption) (by assumption) (by ((intro p9 hp9; repeat (first | exact hp9 | refine List.Mem.tail _ ?_)))))); (case hb => (first | (with_reducible assumption) | assumption | exact Fr.lst (by assumption) (by assumption) | exact News.isL (by assumption) (by k_mem) | exact News.isLp (by assumption) (by k_mem) | exact News.isL0 (by assumption) (by k_mem) | exact ArgLst.at' (by assumption) (by assumption) (by assumption) (by assumption) (by ((intro p9 hp9; repeat (first | exact hp9 | refine List.Mem.tail _ ?_)))) | exact NewLst.at' (by assumption) (by assumption) (by ((intro p9 hp9; repeat (first | exact hp9 | refine List.Mem.tail _ ?_)))) | exact IsLst.at' (by assumption) (by assumption) (by assumption) (by ((intro p9 hp9; repeat (first | exact hp9 | refine List.Mem.tail _ ?_)))))); (case hi => (first | assumption | exact IntsAre.nil | exact .cons _ _ .nil | exact IntsAre.append (by assumption) (.cons _ _ .nil))); (case hj => (first | assumption | exact IntsAre.nil | exact .cons _ _ .nil | exact IntsAre.append (by assumption) (.cons _ _ .nil))); (case hu => ktr_units); (all_goals intro hq9))))
local macro_rules | `(tactic| walk_at "compareOp NotEq ref ref") => `(tactic| (k_here; k_dflt ((with_unfolding_all refine' neI_ite ?ha ?hb ?hi ?hj ?hu ?_ ?_); (case ha => (first | (with_reducible assumption) | assumption | exact Fr.lst (by assumption) (by assumption) | exact News.isL (by assumption) (by k_mem) | exact News.isLp (by assumption) (by k_mem) | exact News.isL0 (by assumption) (by k_mem) | exact ArgLst.at' (by assumption) (by assumption) (by assumption) (by assumption) (by ((intro p9 hp9; repeat (first | exact hp9 | refine List.Mem.tail _ ?_)))) | exact NewLst.at' (by assumption) (by assumption) (by ((intro p9 hp9; repeat (first | exact hp9 | refine List.Mem.tail _ ?_)))) | exact IsLst.at' (by assumption) (by assumption) (by assumption) (by ((intro p9 hp9; repeat (first | exact hp9 | refine List.Mem.tail _ ?_)))))); (case hb => (first | (with_reducible assumption) | assumption | exact Fr.lst (by assumption) (by assumption) | exact News.isL (by assumption) (by k_mem) | exact News.isLp (by assumption) (by k_mem) | exact News.isL0 (by assumption) (by k_mem) | exact ArgLst.at' (by assumption) (by assumption) (by assumption) (by assumption) (by ((intro p9 hp9; repeat (first | exact hp9 | refine List.Mem.tail _ ?_)))) | exact NewLst.at' (by assumption) (by assumption) (by ((intro p9 hp9; repeat (first | exact hp9 | refine List.Mem.tail _ ?_)))) | exact IsLst.at' (by assumption) (by assumption) (by assumption) (by ((intro p9 hp9; repeat (first | exact hp9 | refine List.Mem.tail _ ?_)))))); (case hi => (first | assumption | exact IntsAre.nil | exact .cons _ _ .nil | exact IntsAre.append (by assumption) (.cons _ _ .nil))); (case hj => (first | assumption | exact IntsAre.nil | exact .cons _ _ .nil | exact IntsAre.append (by assumption) (.cons _ _ .nil))); (case hu => ktr_units); (all_goals intro hq9))))
section FOnes
theorem fill_FOnes : PySem.Challenge.rw_nn0009_01.prog = PySem.Challenge.rw_nn0009_01.prog ∧ hd.heap_39 = hd.heap_39 := by
  w_top off
  k_fill
  exact ⟨rfl, rfl⟩
theorem ones_fn (w : World) (g : Heap) (W : Int) (tw : Tok) (hW : 2 ≤ W ∧ W ≤ 9) (la : Addr) (va : List Value) (na : List Int) (x : Int) (hl : g.IsList la va.toArray) (hi : IntsAre va na) (hs : na.length ≤ 50) (R : Row (bs W) na x) (n : Int) (tn : Tok) (hn : 1 ≤ n ∧ n ≤ 30) :
    Fn 6 w 156 [.ref la, .int n tn, .int W tw] g (fun v h' => ∃ xs, Row (bs W) xs (x % (2 ^ n.toNat - 1)) ∧ ROut g la va xs v h') := by
  with_unfolding_all refine' enter2 ?k6 ?k7 ?k9 ?kB ?c5 ?c2 ?c3 ?c4 ?_
  case k6 => k_is
  case k7 => k_is
  case k9 => intro s; exact BindsTo.of_eq rfl
  case kB => exact locs rfl
  case c5 => decide
  case c2 => exact rfl
  case c3 => exact rfl
  case c4 => exact rfl
  dsimp only [fnOf]
  intro dp un gd outer base A₀ p loose mean mg mb L' h₁ gn dr tk os Q' hdp hun B' X' T' F' N' ret
  have hone := one_row hW
  have hn30 : 0 ≤ n ∧ n ≤ 30 := by omega
  have hN : (2 : Int) ≤ 2 ^ n.toNat := by have := pow_le_pow (B := 2) (by decide) (m := 1) (n := n.toNat) (by omega); simpa using this
  have hN1 : (1 : Int) ≤ 2 ^ n.toNat := by omega
  k_with "exec While Constant cons nil" => (k_dflt ((rename PyProof.Rows.Fr _ _ _ _ => lF'); (rename PyProof.Rows.News _ _ _ _ => lN'); (with_unfolding_all refine' ksw_while (σ := S2) (fun c => c.led) (fun c => [(Str.ofString "a", .ref c.a)]) (fun _ => True) [Str.ofString "above"] (fun c => ArgLst la va c.led c.a c.va ∧ IntsAre c.va c.na ∧ Row (bs W) c.na c.x ∧ c.na.length ≤ 50 ∧ c.x ≤ x ∧ (2 ^ n.toNat - 1) ∣ x - c.x) (fun c => c.x.toNat) ⟨_, la, va, na, x, 0, [], [], 0, 0, 0⟩ lF' lN' trivial ?kk ?kp ?_); (case kk => kst_all); (case kp => (dsimp only; exact ⟨ArgLst.arg, hi, R, hs, Int.le_refl _, by rw [Int.sub_self]; exact Int.dvd_zero _⟩)); clear lF' lN'; intro c9 u9 h9 tk9 _ hP9 F9 N9; obtain ⟨led9, a9, va9, na9, x9, _, _, _, _, _, _⟩ := c9; obtain ⟨H1, I1, Q1, l1, x1, D9⟩ := hP9; dsimp only [kstB] at F9 N9 H1 I1 Q1 l1 x1 D9))
  repeat' (first | (k_here; (with_reducible show wpAny _ _ (call (Value.ref 107) _ _) _ _ _); k_dflt ((with_unfolding_all refine' callL (shr_fn _ _ _ _ ?hW _ _ _ _ ?hl ?hi ?hs ?R _ _ ?hn) ?kB ?kF ?kX ?kN ?kT ?kA ?kf ?kk ?k1 ?k2 ?k3 ?_); (case hl => (first | (with_reducible assumption) | assumption | exact Fr.lst (by assumption) (by assumption) | exact News.isL (by assumption) (by k_mem) | exact News.isLp (by assumption) (by k_mem) | exact News.isL0 (by assumption) (by k_mem) | exact ArgLst.at' (by assumption) (by assumption) (by assumption) (by assumption) (by ((intro p9 hp9; repeat (first | exact hp9 | refine List.Mem.tail _ ?_)))) | exact NewLst.at' (by assumption) (by assumption) (by ((intro p9 hp9; repeat (first | exact hp9 | refine List.Mem.tail _ ?_)))) | exact IsLst.at' (by assumption) (by assumption) (by assumption) (by ((intro p9 hp9; repeat (first | exact hp9 | refine List.Mem.tail _ ?_)))))); (case hi => (first | assumption | exact IntsAre.nil | exact .cons _ _ .nil | exact IntsAre.append (by assumption) (.cons _ _ .nil))); (case hs => (first | assumption | omega | (have e := ‹_ = (rangeKs _ _).length›; rw [rangeKs_length] at e; omega) | (simp only [List.length_append, List.length_cons, List.length_nil, List.length_replicate, List.length_take, List.length_drop]; omega))); (case R => (assumption)); (case hW => (first | assumption | omega)); (case hn => (first | assumption | omega)); (case kB => k_asm); (case kF => k_asm); (case kX => k_asm); (case kN => k_asm); (case kT => k_asm); (case kA => exact rfl); (case kf => exact rfl); (case kk => exact rfl); (case k1 => ktr_room); (case k2 => ktr_units); (case k3 => exact rfl); k_whole; intro la9 va9 n9 xs9 h9 tk9 F9 N9 ne9 hi9 hp9; obtain ⟨hr9, hq9⟩ := hp9; (try simp only [List.length_cons, List.length_nil] at hq9); (try dsimp only); (try k_fold))) | (k_here; (with_reducible show wpAny _ _ (call (Value.ref 114) _ _) _ _ _); k_dflt ((with_unfolding_all refine' callL (low_fn _ _ _ _ ?hW _ _ _ _ ?hl ?hi ?hs ?R _ _ ?hn) ?kB ?kF ?kX ?kN ?kT ?kA ?kf ?kk ?k1 ?k2 ?k3 ?_); (case hl => (first | (with_reducible assumption) | assumption | exact Fr.lst (by assumption) (by assumption) | exact News.isL (by assumption) (by k_mem) | exact News.isLp (by assumption) (by k_mem) | exact News.isL0 (by assumption) (by k_mem) | exact ArgLst.at' (by assumption) (by assumption) (by assumption) (by assumption) (by ((intro p9 hp9; repeat (first | exact hp9 | refine List.Mem.tail _ ?_)))) | exact NewLst.at' (by assumption) (by assumption) (by ((intro p9 hp9; repeat (first | exact hp9 | refine List.Mem.tail _ ?_)))) | exact IsLst.at' (by assumption) (by assumption) (by assumption) (by ((intro p9 hp9; repeat (first | exact hp9 | refine List.Mem.tail _ ?_)))))); (case hi => (first | assumption | exact IntsAre.nil | exact .cons _ _ .nil | exact IntsAre.append (by assumption) (.cons _ _ .nil))); (case hs => (first | assumption | omega | (have e := ‹_ = (rangeKs _ _).length›; rw [rangeKs_length] at e; omega) | (simp only [List.length_append, List.length_cons, List.length_nil, List.length_replicate, List.length_take, List.length_drop]; omega))); (case R => (assumption)); (case hW => (first | assumption | omega)); (case hn => (first | assumption | omega)); (case kB => k_asm); (case kF => k_asm); (case kX => k_asm); (case kN => k_asm); (case kT => k_asm); (case kA => exact rfl); (case kf => exact rfl); (case kk => exact rfl); (case k1 => ktr_room); (case k2 => ktr_units); (case k3 => exact rfl); k_whole; intro la9 va9 n9 xs9 h9 tk9 F9 N9 ne9 hi9 hp9; obtain ⟨hr9, hq9⟩ := hp9; (try simp only [List.length_cons, List.length_nil] at hq9); (try dsimp only); (try k_fold))) | (k_here; (with_reducible show wpAny _ _ (call (Value.ref 72) _ _) _ _ _); k_dflt ((with_unfolding_all refine' callL (add_fn _ _ _ _ ?hW _ _ _ _ ?hl ?hi ?hs ?R _ _ _ _ ?hlb ?hib ?hsb ?S) ?kB ?kF ?kX ?kN ?kT ?kA ?kf ?kk ?k1 ?k2 ?k3 ?_); (case hl => (first | (with_reducible assumption) | assumption | exact Fr.lst (by assumption) (by assumption) | exact News.isL (by assumption) (by k_mem) | exact News.isLp (by assumption) (by k_mem) | exact News.isL0 (by assumption) (by k_mem) | exact ArgLst.at' (by assumption) (by assumption) (by assumption) (by assumption) (by ((intro p9 hp9; repeat (first | exact hp9 | refine List.Mem.tail _ ?_)))) | exact NewLst.at' (by assumption) (by assumption) (by ((intro p9 hp9; repeat (first | exact hp9 | refine List.Mem.tail _ ?_)))) | exact IsLst.at' (by assumption) (by assumption) (by assumption) (by ((intro p9 hp9; repeat (first | exact hp9 | refine List.Mem.tail _ ?_)))))); (case hi => (first | assumption | exact IntsAre.nil | exact .cons _ _ .nil | exact IntsAre.append (by assumption) (.cons _ _ .nil))); (case hs => (first | assumption | omega | (have e := ‹_ = (rangeKs _ _).length›; rw [rangeKs_length] at e; omega) | (simp only [List.length_append, List.length_cons, List.length_nil, List.length_replicate, List.length_take, List.length_drop]; omega))); (case R => (assumption)); (case hlb => (first | (with_reducible assumption) | assumption | exact Fr.lst (by assumption) (by assumption) | exact News.isL (by assumption) (by k_mem) | exact News.isLp (by assumption) (by k_mem) | exact News.isL0 (by assumption) (by k_mem) | exact ArgLst.at' (by assumption) (by assumption) (by assumption) (by assumption) (by ((intro p9 hp9; repeat (first | exact hp9 | refine List.Mem.tail _ ?_)))) | exact NewLst.at' (by assumption) (by assumption) (by ((intro p9 hp9; repeat (first | exact hp9 | refine List.Mem.tail _ ?_)))) | exact IsLst.at' (by assumption) (by assumption) (by assumption) (by ((intro p9 hp9; repeat (first | exact hp9 | refine List.Mem.tail _ ?_)))))); (case hib => (first | assumption | exact IntsAre.nil | exact .cons _ _ .nil | exact IntsAre.append (by assumption) (.cons _ _ .nil))); (case hsb => (first | assumption | omega | (have e := ‹_ = (rangeKs _ _).length›; rw [rangeKs_length] at e; omega) | (simp only [List.length_append, List.length_cons, List.length_nil, List.length_replicate, List.length_take, List.length_drop]; omega))); (case S => (assumption)); (case hW => (first | assumption | omega)); (case kB => k_asm); (case kF => k_asm); (case kX => k_asm); (case kN => k_asm); (case kT => k_asm); (case kA => exact rfl); (case kf => exact rfl); (case kk => exact rfl); (case k1 => ktr_room); (case k2 => ktr_units); (case k3 => exact rfl); k_whole; intro la9 va9 n9 xs9 h9 tk9 F9 N9 ne9 hi9 hp9; obtain ⟨hr9, hq9⟩ := hp9; (try simp only [List.length_cons, List.length_nil] at hq9); (try dsimp only); (try k_fold))) | (k_here; (with_reducible show wpAny _ _ (call (Value.ref 100) _ _) _ _ _); k_dflt ((with_unfolding_all refine' callL (shl_fn _ _ _ _ ?hW _ _ ?hl _ _ ?hn) ?kB ?kF ?kX ?kN ?kT ?kA ?kf ?kk ?k1 ?k2 ?k3 ?_); (case hW => (first | assumption | omega)); (case hl => (first | (with_reducible assumption) | assumption | exact Fr.lst (by assumption) (by assumption) | exact News.isL (by assumption) (by k_mem) | exact News.isLp (by assumption) (by k_mem) | exact News.isL0 (by assumption) (by k_mem) | exact ArgLst.at' (by assumption) (by assumption) (by assumption) (by assumption) (by ((intro p9 hp9; repeat (first | exact hp9 | refine List.Mem.tail _ ?_)))) | exact NewLst.at' (by assumption) (by assumption) (by ((intro p9 hp9; repeat (first | exact hp9 | refine List.Mem.tail _ ?_)))) | exact IsLst.at' (by assumption) (by assumption) (by assumption) (by ((intro p9 hp9; repeat (first | exact hp9 | refine List.Mem.tail _ ?_)))))); (case hn => (first | assumption | omega)); (case kB => k_asm); (case kF => k_asm); (case kX => k_asm); (case kN => k_asm); (case kT => k_asm); (case kA => exact rfl); (case kf => exact rfl); (case kk => exact rfl); (case k1 => ktr_room); (case k2 => ktr_units); (case k3 => exact rfl); k_whole; intro la9 va9 n9 xs9 h9 tk9 F9 N9 ne9 hi9 hp9; obtain ⟨hr9, hq9⟩ := hp9; (try simp only [List.length_cons, List.length_nil] at hq9); (try dsimp only); (try k_fold))) | (k_here; (with_reducible show wpAny _ _ (call (Value.ref 79) _ _) _ _ _); k_dflt ((with_unfolding_all refine' callL (sub_fn _ _ _ _ ?hW _ _ _ _ ?hl ?hi ?hs ?R _ _ _ _ ?hlb ?hib ?hsb ?S ?hxy) ?kB ?kF ?kX ?kN ?kT ?kA ?kf ?kk ?k1 ?k2 ?k3 ?_); (case hl => (first | (with_reducible assumption) | assumption | exact Fr.lst (by assumption) (by assumption) | exact News.isL (by assumption) (by k_mem) | exact News.isLp (by assumption) (by k_mem) | exact News.isL0 (by assumption) (by k_mem) | exact ArgLst.at' (by assumption) (by assumption) (by assumption) (by assumption) (by ((intro p9 hp9; repeat (first | exact hp9 | refine List.Mem.tail _ ?_)))) | exact NewLst.at' (by assumption) (by assumption) (by ((intro p9 hp9; repeat (first | exact hp9 | refine List.Mem.tail _ ?_)))) | exact IsLst.at' (by assumption) (by assumption) (by assumption) (by ((intro p9 hp9; repeat (first | exact hp9 | refine List.Mem.tail _ ?_)))))); (case hi => (first | assumption | exact IntsAre.nil | exact .cons _ _ .nil | exact IntsAre.append (by assumption) (.cons _ _ .nil))); (case hs => (first | assumption | omega | (have e := ‹_ = (rangeKs _ _).length›; rw [rangeKs_length] at e; omega) | (simp only [List.length_append, List.length_cons, List.length_nil, List.length_replicate, List.length_take, List.length_drop]; omega))); (case R => (assumption)); (case hlb => (first | (with_reducible assumption) | assumption | exact Fr.lst (by assumption) (by assumption) | exact News.isL (by assumption) (by k_mem) | exact News.isLp (by assumption) (by k_mem) | exact News.isL0 (by assumption) (by k_mem) | exact ArgLst.at' (by assumption) (by assumption) (by assumption) (by assumption) (by ((intro p9 hp9; repeat (first | exact hp9 | refine List.Mem.tail _ ?_)))) | exact NewLst.at' (by assumption) (by assumption) (by ((intro p9 hp9; repeat (first | exact hp9 | refine List.Mem.tail _ ?_)))) | exact IsLst.at' (by assumption) (by assumption) (by assumption) (by ((intro p9 hp9; repeat (first | exact hp9 | refine List.Mem.tail _ ?_)))))); (case hib => (first | assumption | exact IntsAre.nil | exact .cons _ _ .nil | exact IntsAre.append (by assumption) (.cons _ _ .nil))); (case hsb => (first | assumption | omega | (have e := ‹_ = (rangeKs _ _).length›; rw [rangeKs_length] at e; omega) | (simp only [List.length_append, List.length_cons, List.length_nil, List.length_replicate, List.length_take, List.length_drop]; omega))); (case S => (assumption)); (case hW => (first | assumption | omega)); (case hxy => (first | assumption | omega)); (case kB => k_asm); (case kF => k_asm); (case kX => k_asm); (case kN => k_asm); (case kT => k_asm); (case kA => exact rfl); (case kf => exact rfl); (case kk => exact rfl); (case k1 => ktr_room); (case k2 => ktr_units); (case k3 => exact rfl); k_whole; intro la9 va9 n9 xs9 h9 tk9 F9 N9 ne9 hi9 hp9; obtain ⟨hr9, hq9⟩ := hp9; (try simp only [List.length_cons, List.length_nil] at hq9); (try dsimp only); (try k_fold))) | (first | ((with_reducible show wpAny _ _ (execs (_ :: _) _) _ _ _); walk1; refine wp_abs ?_; intro _ _; (try dsimp only)) | ((with_reducible refine use_abs (α := Flow) (by with_reducible assumption) ?_); (try (rename ∀ (_ : Flow) (_ : Shared), _ → _ => z9; clear z9)); (try (rename Flow → Shared → Prop => z8; clear z8)); (try dsimp only)) | (k_unfold; (try dsimp only)) | (k_end; kc_close) | walk1 | (dsimp only; walk1) | (leave1; (try dsimp only))))
  all_goals (try dsimp only)
  · refine' ret _ _ _ (Fr.keep (by assumption)) (Exists.intro ?xs1 (And.intro ?ro1 ?lo1))
    case lo1 => exact ROut.mkNil (by assumption) (by k_mem)
    case ro1 => exact ones_end1 hN Q1 (by assumption) (by assumption) D9
  · refine' ret _ _ _ (Fr.keep (by assumption)) (Exists.intro ?xs2 (And.intro ?ro2 ?lo2))
    case lo2 => exact ROut.mkArg H1 (by assumption) (by ((intro p9 hp9; repeat (first | exact hp9 | refine List.Mem.tail _ ?_)))) (by assumption)
    case ro2 => exact ones_end2 (bs_pos W) hN (by assumption) (by assumption) Q1 (by assumption) (by assumption) D9
  · rename _ ≠ [] => hne9
    have hT := ones_turn' (xs := []) (bs_pos W) hN Q1 (by assumption) hne9 D9
    refine' ksw_end ⟨_, _, _, _, _, 0, [], [], 0, 0, 0⟩ (by assumption) (by assumption) (fun p hp => hp) trivial ?kk ?ks ?kp ?km
    case kk => kst_all
    case ks => ksw_same
    case kp =>
      dsimp only
      refine' ⟨ArgLst.new ?p1, ?p2, ?p3, ?p4, ?p5, ?p6⟩
      case p1 => k_mem
      case p2 => assumption
      case p3 => assumption
      case p4 => exact Nat.le_trans (Row.len_mono (bs_pos W) (by assumption) R (by omega)) hs
      case p5 => omega
      case p6 => exact hT.1
    case km => dsimp only; omega

end FOnes
section FMore
theorem fill_FMore : PySem.Challenge.rw_nn0009_01.prog = PySem.Challenge.rw_nn0009_01.prog ∧ hd.heap_39 = hd.heap_39 := by
  w_top off
  k_fill
  exact ⟨rfl, rfl⟩
theorem more_fn (w : World) (g : Heap) (W : Int) (tw : Tok) (hW : 2 ≤ W ∧ W ≤ 9) (la : Addr) (va : List Value) (na : List Int) (x : Int) (hl : g.IsList la va.toArray) (hi : IntsAre va na) (hs : na.length ≤ 50) (R : Row (bs W) na x) (n : Int) (tn : Tok) (hn : 1 ≤ n ∧ n ≤ 30) :
    Fn 8 w 163 [.ref la, .int n tn, .int W tw] g (fun v h' => ∃ xs, (Row (bs W) xs (x % (2 ^ n.toNat + 1))) ∧ LOut g xs v h') := by
  with_unfolding_all refine' enter2 ?k6 ?k7 ?k9 ?kB ?c5 ?c2 ?c3 ?c4 ?_
  case k6 => k_is
  case k7 => k_is
  case k9 => intro s; exact BindsTo.of_eq rfl
  case kB => exact locs rfl
  case c5 => decide
  case c2 => exact rfl
  case c3 => exact rfl
  case c4 => exact rfl
  dsimp only [fnOf]
  intro dp un gd outer base A₀ p loose mean mg mb L' h₁ gn dr tk os Q' hdp hun B' X' T' F' N' ret
  have hone := one_row hW
  have hnil : Row (bs W) [] 0 := Row.nil
  have hn30 : 0 ≤ n ∧ n ≤ 30 := by omega
  have hN : (2 : Int) ≤ 2 ^ n.toNat := by have := pow_le_pow (B := 2) (by decide) (m := 1) (n := n.toNat) (by omega); simpa using this
  k_with "exec While Compare cons nil" => (k_dflt ((rename PyProof.Rows.Fr _ _ _ _ => lF'); (rename PyProof.Rows.News _ _ _ _ => lN'); (with_unfolding_all refine' ksw_while (σ := S3) (fun c => c.led) (fun c => [(Str.ofString "a", .ref c.a), (Str.ofString "found", .ref c.b), (Str.ofString "is_below", .bool c.s), (Str.ofString "modulus", .ref c.c)]) (fun _ => True) [Str.ofString "part"] (fun c => ArgLst la va c.led c.a c.va ∧ NewLst c.led c.b c.vb ∧ IntsAre c.va c.na ∧ IntsAre c.vb c.nb ∧ Row (bs W) c.na c.x ∧ Row (bs W) c.nb c.y ∧ c.na.length ≤ 50 ∧ c.nb.length ≤ 50 ∧ MoreS (2 ^ n.toNat + 1) x c.x c.y c.s ∧ NewLst c.led c.c c.vc ∧ IntsAre c.vc c.nc ∧ Row (bs W) c.nc (2 ^ n.toNat + 1) ∧ c.nc.length ≤ 32) (fun c => c.x.toNat) ⟨_, la, va, na, x, _, [], [], 0, false, _, _, _⟩ lF' lN' trivial ?kk ?kp ?_); (case kk => kst_all); (case kp => (dsimp only; refine' ⟨ArgLst.arg, NewLst.new0 ?p1, hi, .nil, R, hnil, hs, by decide, MoreS.start (by omega), NewLst.new ?p2, ?p3, ?p4, ?p5⟩; (case p1 => k_mem); (case p2 => k_mem); (case p3 => assumption); (case p4 => assumption); (case p5 => omega))); clear lF' lN'; intro c9 u9 h9 tk9 _ hP9 F9 N9; obtain ⟨led9, a9, va9, na9, x9, b9, vb9, nb9, y9, s9, c9, vc9, nc9⟩ := c9; obtain ⟨H1, H2, I1, I2, Q1, Q2, l1, l2, D9, H3, I3, Q3, l3⟩ := hP9; dsimp only [kstB] at F9 N9 H1 H2 I1 I2 Q1 Q2 l1 l2 D9 H3 I3 Q3 l3; have y0 := D9.1; have hb9 := Int.emod_lt_of_pos x9 (show (0 : Int) < 2 ^ n.toNat by omega); have hb0 := Int.emod_nonneg x9 (show (2 : Int) ^ n.toNat ≠ 0 by omega); cases s9))
  repeat' (first | (k_here; (with_reducible show wpAny _ _ (call (Value.ref 65) _ _) _ _ _); k_dflt ((with_unfolding_all refine' callI (compare_fn _ _ _ ?hB _ _ _ _ ?hl ?hi ?hs ?R _ _ _ _ ?hlb ?hib ?hsb ?S) ?kB ?kF ?kX ?kN ?kT ?kA ?kf ?kk ?k1 ?k2 ?k3 ?_); (case hl => (first | (with_reducible assumption) | assumption | exact Fr.lst (by assumption) (by assumption) | exact News.isL (by assumption) (by k_mem) | exact News.isLp (by assumption) (by k_mem) | exact News.isL0 (by assumption) (by k_mem) | exact ArgLst.at' (by assumption) (by assumption) (by assumption) (by assumption) (by ((intro p9 hp9; repeat (first | exact hp9 | refine List.Mem.tail _ ?_)))) | exact NewLst.at' (by assumption) (by assumption) (by ((intro p9 hp9; repeat (first | exact hp9 | refine List.Mem.tail _ ?_)))) | exact IsLst.at' (by assumption) (by assumption) (by assumption) (by ((intro p9 hp9; repeat (first | exact hp9 | refine List.Mem.tail _ ?_)))))); (case hi => (first | assumption | exact IntsAre.nil | exact .cons _ _ .nil | exact IntsAre.append (by assumption) (.cons _ _ .nil))); (case hs => (first | assumption | omega | (have e := ‹_ = (rangeKs _ _).length›; rw [rangeKs_length] at e; omega) | (simp only [List.length_append, List.length_cons, List.length_nil, List.length_replicate, List.length_take, List.length_drop]; omega))); (case R => (assumption)); (case hlb => (first | (with_reducible assumption) | assumption | exact Fr.lst (by assumption) (by assumption) | exact News.isL (by assumption) (by k_mem) | exact News.isLp (by assumption) (by k_mem) | exact News.isL0 (by assumption) (by k_mem) | exact ArgLst.at' (by assumption) (by assumption) (by assumption) (by assumption) (by ((intro p9 hp9; repeat (first | exact hp9 | refine List.Mem.tail _ ?_)))) | exact NewLst.at' (by assumption) (by assumption) (by ((intro p9 hp9; repeat (first | exact hp9 | refine List.Mem.tail _ ?_)))) | exact IsLst.at' (by assumption) (by assumption) (by assumption) (by ((intro p9 hp9; repeat (first | exact hp9 | refine List.Mem.tail _ ?_)))))); (case hib => (first | assumption | exact IntsAre.nil | exact .cons _ _ .nil | exact IntsAre.append (by assumption) (.cons _ _ .nil))); (case hsb => (first | assumption | omega | (have e := ‹_ = (rangeKs _ _).length›; rw [rangeKs_length] at e; omega) | (simp only [List.length_append, List.length_cons, List.length_nil, List.length_replicate, List.length_take, List.length_drop]; omega))); (case S => (assumption)); (case hB => exact bs_pos _); (case kB => k_asm); (case kF => k_asm); (case kX => k_asm); (case kN => k_asm); (case kT => k_asm); (case kA => exact rfl); (case kf => exact rfl); (case kk => exact rfl); (case k1 => ktr_room); (case k2 => ktr_units); (case k3 => exact rfl); k_whole; intro i9 t9 h9 tk9 F9 N9 hp9; have hc9 := cmp_facts hp9; (try dsimp only); (try k_fold))) | (k_here; (with_reducible show wpAny _ _ (call (Value.ref 107) _ _) _ _ _); k_dflt ((with_unfolding_all refine' callL (shr_fn _ _ _ _ ?hW _ _ _ _ ?hl ?hi ?hs ?R _ _ ?hn) ?kB ?kF ?kX ?kN ?kT ?kA ?kf ?kk ?k1 ?k2 ?k3 ?_); (case hl => (first | (with_reducible assumption) | assumption | exact Fr.lst (by assumption) (by assumption) | exact News.isL (by assumption) (by k_mem) | exact News.isLp (by assumption) (by k_mem) | exact News.isL0 (by assumption) (by k_mem) | exact ArgLst.at' (by assumption) (by assumption) (by assumption) (by assumption) (by ((intro p9 hp9; repeat (first | exact hp9 | refine List.Mem.tail _ ?_)))) | exact NewLst.at' (by assumption) (by assumption) (by ((intro p9 hp9; repeat (first | exact hp9 | refine List.Mem.tail _ ?_)))) | exact IsLst.at' (by assumption) (by assumption) (by assumption) (by ((intro p9 hp9; repeat (first | exact hp9 | refine List.Mem.tail _ ?_)))))); (case hi => (first | assumption | exact IntsAre.nil | exact .cons _ _ .nil | exact IntsAre.append (by assumption) (.cons _ _ .nil))); (case hs => (first | assumption | omega | (have e := ‹_ = (rangeKs _ _).length›; rw [rangeKs_length] at e; omega) | (simp only [List.length_append, List.length_cons, List.length_nil, List.length_replicate, List.length_take, List.length_drop]; omega))); (case R => (assumption)); (case hW => (first | assumption | omega)); (case hn => (first | assumption | omega)); (case kB => k_asm); (case kF => k_asm); (case kX => k_asm); (case kN => k_asm); (case kT => k_asm); (case kA => exact rfl); (case kf => exact rfl); (case kk => exact rfl); (case k1 => ktr_room); (case k2 => ktr_units); (case k3 => exact rfl); k_whole; intro la9 va9 n9 xs9 h9 tk9 F9 N9 ne9 hi9 hp9; obtain ⟨hr9, hq9⟩ := hp9; (try simp only [List.length_cons, List.length_nil] at hq9); (try dsimp only); (try k_fold))) | (k_here; (with_reducible show wpAny _ _ (call (Value.ref 114) _ _) _ _ _); k_dflt ((with_unfolding_all refine' callL (low_fn _ _ _ _ ?hW _ _ _ _ ?hl ?hi ?hs ?R _ _ ?hn) ?kB ?kF ?kX ?kN ?kT ?kA ?kf ?kk ?k1 ?k2 ?k3 ?_); (case hl => (first | (with_reducible assumption) | assumption | exact Fr.lst (by assumption) (by assumption) | exact News.isL (by assumption) (by k_mem) | exact News.isLp (by assumption) (by k_mem) | exact News.isL0 (by assumption) (by k_mem) | exact ArgLst.at' (by assumption) (by assumption) (by assumption) (by assumption) (by ((intro p9 hp9; repeat (first | exact hp9 | refine List.Mem.tail _ ?_)))) | exact NewLst.at' (by assumption) (by assumption) (by ((intro p9 hp9; repeat (first | exact hp9 | refine List.Mem.tail _ ?_)))) | exact IsLst.at' (by assumption) (by assumption) (by assumption) (by ((intro p9 hp9; repeat (first | exact hp9 | refine List.Mem.tail _ ?_)))))); (case hi => (first | assumption | exact IntsAre.nil | exact .cons _ _ .nil | exact IntsAre.append (by assumption) (.cons _ _ .nil))); (case hs => (first | assumption | omega | (have e := ‹_ = (rangeKs _ _).length›; rw [rangeKs_length] at e; omega) | (simp only [List.length_append, List.length_cons, List.length_nil, List.length_replicate, List.length_take, List.length_drop]; omega))); (case R => (assumption)); (case hW => (first | assumption | omega)); (case hn => (first | assumption | omega)); (case kB => k_asm); (case kF => k_asm); (case kX => k_asm); (case kN => k_asm); (case kT => k_asm); (case kA => exact rfl); (case kf => exact rfl); (case kk => exact rfl); (case k1 => ktr_room); (case k2 => ktr_units); (case k3 => exact rfl); k_whole; intro la9 va9 n9 xs9 h9 tk9 F9 N9 ne9 hi9 hp9; obtain ⟨hr9, hq9⟩ := hp9; (try simp only [List.length_cons, List.length_nil] at hq9); (try dsimp only); (try k_fold))) | (k_here; (with_reducible show wpAny _ _ (call (Value.ref 72) _ _) _ _ _); k_dflt ((with_unfolding_all refine' callL (add_fn _ _ _ _ ?hW _ _ _ _ ?hl ?hi ?hs ?R _ _ _ _ ?hlb ?hib ?hsb ?S) ?kB ?kF ?kX ?kN ?kT ?kA ?kf ?kk ?k1 ?k2 ?k3 ?_); (case hl => (first | (with_reducible assumption) | assumption | exact Fr.lst (by assumption) (by assumption) | exact News.isL (by assumption) (by k_mem) | exact News.isLp (by assumption) (by k_mem) | exact News.isL0 (by assumption) (by k_mem) | exact ArgLst.at' (by assumption) (by assumption) (by assumption) (by assumption) (by ((intro p9 hp9; repeat (first | exact hp9 | refine List.Mem.tail _ ?_)))) | exact NewLst.at' (by assumption) (by assumption) (by ((intro p9 hp9; repeat (first | exact hp9 | refine List.Mem.tail _ ?_)))) | exact IsLst.at' (by assumption) (by assumption) (by assumption) (by ((intro p9 hp9; repeat (first | exact hp9 | refine List.Mem.tail _ ?_)))))); (case hi => (first | assumption | exact IntsAre.nil | exact .cons _ _ .nil | exact IntsAre.append (by assumption) (.cons _ _ .nil))); (case hs => (first | assumption | omega | (have e := ‹_ = (rangeKs _ _).length›; rw [rangeKs_length] at e; omega) | (simp only [List.length_append, List.length_cons, List.length_nil, List.length_replicate, List.length_take, List.length_drop]; omega))); (case R => (assumption)); (case hlb => (first | (with_reducible assumption) | assumption | exact Fr.lst (by assumption) (by assumption) | exact News.isL (by assumption) (by k_mem) | exact News.isLp (by assumption) (by k_mem) | exact News.isL0 (by assumption) (by k_mem) | exact ArgLst.at' (by assumption) (by assumption) (by assumption) (by assumption) (by ((intro p9 hp9; repeat (first | exact hp9 | refine List.Mem.tail _ ?_)))) | exact NewLst.at' (by assumption) (by assumption) (by ((intro p9 hp9; repeat (first | exact hp9 | refine List.Mem.tail _ ?_)))) | exact IsLst.at' (by assumption) (by assumption) (by assumption) (by ((intro p9 hp9; repeat (first | exact hp9 | refine List.Mem.tail _ ?_)))))); (case hib => (first | assumption | exact IntsAre.nil | exact .cons _ _ .nil | exact IntsAre.append (by assumption) (.cons _ _ .nil))); (case hsb => (first | assumption | omega | (have e := ‹_ = (rangeKs _ _).length›; rw [rangeKs_length] at e; omega) | (simp only [List.length_append, List.length_cons, List.length_nil, List.length_replicate, List.length_take, List.length_drop]; omega))); (case S => (assumption)); (case hW => (first | assumption | omega)); (case kB => k_asm); (case kF => k_asm); (case kX => k_asm); (case kN => k_asm); (case kT => k_asm); (case kA => exact rfl); (case kf => exact rfl); (case kk => exact rfl); (case k1 => ktr_room); (case k2 => ktr_units); (case k3 => exact rfl); k_whole; intro la9 va9 n9 xs9 h9 tk9 F9 N9 ne9 hi9 hp9; obtain ⟨hr9, hq9⟩ := hp9; (try simp only [List.length_cons, List.length_nil] at hq9); (try dsimp only); (try k_fold))) | (k_here; (with_reducible show wpAny _ _ (call (Value.ref 100) _ _) _ _ _); k_dflt ((with_unfolding_all refine' callL (shl_fn _ _ _ _ ?hW _ _ ?hl _ _ ?hn) ?kB ?kF ?kX ?kN ?kT ?kA ?kf ?kk ?k1 ?k2 ?k3 ?_); (case hW => (first | assumption | omega)); (case hl => (first | (with_reducible assumption) | assumption | exact Fr.lst (by assumption) (by assumption) | exact News.isL (by assumption) (by k_mem) | exact News.isLp (by assumption) (by k_mem) | exact News.isL0 (by assumption) (by k_mem) | exact ArgLst.at' (by assumption) (by assumption) (by assumption) (by assumption) (by ((intro p9 hp9; repeat (first | exact hp9 | refine List.Mem.tail _ ?_)))) | exact NewLst.at' (by assumption) (by assumption) (by ((intro p9 hp9; repeat (first | exact hp9 | refine List.Mem.tail _ ?_)))) | exact IsLst.at' (by assumption) (by assumption) (by assumption) (by ((intro p9 hp9; repeat (first | exact hp9 | refine List.Mem.tail _ ?_)))))); (case hn => (first | assumption | omega)); (case kB => k_asm); (case kF => k_asm); (case kX => k_asm); (case kN => k_asm); (case kT => k_asm); (case kA => exact rfl); (case kf => exact rfl); (case kk => exact rfl); (case k1 => ktr_room); (case k2 => ktr_units); (case k3 => exact rfl); k_whole; intro la9 va9 n9 xs9 h9 tk9 F9 N9 ne9 hi9 hp9; obtain ⟨hr9, hq9⟩ := hp9; (try simp only [List.length_cons, List.length_nil] at hq9); (try dsimp only); (try k_fold))) | (k_here; (with_reducible show wpAny _ _ (call (Value.ref 79) _ _) _ _ _); k_dflt ((with_unfolding_all refine' callL (sub_fn _ _ _ _ ?hW _ _ _ _ ?hl ?hi ?hs ?R _ _ _ _ ?hlb ?hib ?hsb ?S ?hxy) ?kB ?kF ?kX ?kN ?kT ?kA ?kf ?kk ?k1 ?k2 ?k3 ?_); (case hl => (first | (with_reducible assumption) | assumption | exact Fr.lst (by assumption) (by assumption) | exact News.isL (by assumption) (by k_mem) | exact News.isLp (by assumption) (by k_mem) | exact News.isL0 (by assumption) (by k_mem) | exact ArgLst.at' (by assumption) (by assumption) (by assumption) (by assumption) (by ((intro p9 hp9; repeat (first | exact hp9 | refine List.Mem.tail _ ?_)))) | exact NewLst.at' (by assumption) (by assumption) (by ((intro p9 hp9; repeat (first | exact hp9 | refine List.Mem.tail _ ?_)))) | exact IsLst.at' (by assumption) (by assumption) (by assumption) (by ((intro p9 hp9; repeat (first | exact hp9 | refine List.Mem.tail _ ?_)))))); (case hi => (first | assumption | exact IntsAre.nil | exact .cons _ _ .nil | exact IntsAre.append (by assumption) (.cons _ _ .nil))); (case hs => (first | assumption | omega | (have e := ‹_ = (rangeKs _ _).length›; rw [rangeKs_length] at e; omega) | (simp only [List.length_append, List.length_cons, List.length_nil, List.length_replicate, List.length_take, List.length_drop]; omega))); (case R => (assumption)); (case hlb => (first | (with_reducible assumption) | assumption | exact Fr.lst (by assumption) (by assumption) | exact News.isL (by assumption) (by k_mem) | exact News.isLp (by assumption) (by k_mem) | exact News.isL0 (by assumption) (by k_mem) | exact ArgLst.at' (by assumption) (by assumption) (by assumption) (by assumption) (by ((intro p9 hp9; repeat (first | exact hp9 | refine List.Mem.tail _ ?_)))) | exact NewLst.at' (by assumption) (by assumption) (by ((intro p9 hp9; repeat (first | exact hp9 | refine List.Mem.tail _ ?_)))) | exact IsLst.at' (by assumption) (by assumption) (by assumption) (by ((intro p9 hp9; repeat (first | exact hp9 | refine List.Mem.tail _ ?_)))))); (case hib => (first | assumption | exact IntsAre.nil | exact .cons _ _ .nil | exact IntsAre.append (by assumption) (.cons _ _ .nil))); (case hsb => (first | assumption | omega | (have e := ‹_ = (rangeKs _ _).length›; rw [rangeKs_length] at e; omega) | (simp only [List.length_append, List.length_cons, List.length_nil, List.length_replicate, List.length_take, List.length_drop]; omega))); (case S => (assumption)); (case hW => (first | assumption | omega)); (case hxy => (first | assumption | omega)); (case kB => k_asm); (case kF => k_asm); (case kX => k_asm); (case kN => k_asm); (case kT => k_asm); (case kA => exact rfl); (case kf => exact rfl); (case kk => exact rfl); (case k1 => ktr_room); (case k2 => ktr_units); (case k3 => exact rfl); k_whole; intro la9 va9 n9 xs9 h9 tk9 F9 N9 ne9 hi9 hp9; obtain ⟨hr9, hq9⟩ := hp9; (try simp only [List.length_cons, List.length_nil] at hq9); (try dsimp only); (try k_fold))) | (first | ((with_reducible show wpAny _ _ (execs (_ :: _) _) _ _ _); walk1; refine wp_abs ?_; intro _ _; (try dsimp only)) | ((with_reducible refine use_abs (α := Flow) (by with_reducible assumption) ?_); (try (rename ∀ (_ : Flow) (_ : Shared), _ → _ => z9; clear z9)); (try (rename Flow → Shared → Prop => z8; clear z8)); (try dsimp only)) | (k_unfold; (try dsimp only)) | (k_end; kc_close) | walk1 | (dsimp only; walk1) | (leave1; (try dsimp only))))
  all_goals (try dsimp only)

  · have hT := D9.up1 hN (by omega)
    refine' ksw_end ⟨_, _, _, _, _, _, _, _, _, true, _, _, _⟩ (by assumption) (by assumption) (fun p hp => hp) trivial ?kka ?ksa ?kpa ?kma
    case kka => kst_all
    case ksa => ksw_same
    case kpa =>
      dsimp only
      refine' ⟨ArgLst.new ?p1a, NewLst.new ?p2a, ?p3a, ?p4a, ?p5a, ?p6a, ?p7a, ?p8a, ?p9a, NewLst.mono H3 ?p10a, I3, Q3, l3⟩
      case p1a => k_mem
      case p2a => k_mem
      case p3a => assumption
      case p4a => assumption
      case p5a => assumption
      case p6a => assumption
      case p9a => exact hT
      case p7a => omega
      case p8a => exact more_len (by assumption) Q3 hT l3
      case p10a => ((intro p9 hp9; repeat (first | exact hp9 | refine List.Mem.tail _ ?_)))
    case kma => exact more_less (bs_pos W) hN Q1 (by assumption)
  · have hT := D9.up0 hN (by omega)
    refine' ksw_end ⟨_, _, _, _, _, _, _, _, _, true, _, _, _⟩ (by assumption) (by assumption) (fun p hp => hp) trivial ?kkb ?ksb ?kpb ?kmb
    case kkb => kst_all
    case ksb => ksw_same
    case kpb =>
      dsimp only
      refine' ⟨ArgLst.new ?p1b, NewLst.new ?p2b, ?p3b, ?p4b, ?p5b, ?p6b, ?p7b, ?p8b, ?p9b, NewLst.mono H3 ?p10b, I3, Q3, l3⟩
      case p1b => k_mem
      case p2b => k_mem
      case p3b => assumption
      case p4b => assumption
      case p5b => assumption
      case p6b => assumption
      case p9b => exact hT
      case p7b => omega
      case p8b => exact more_len (by assumption) Q3 hT l3
      case p10b => ((intro p9 hp9; repeat (first | exact hp9 | refine List.Mem.tail _ ?_)))
    case kmb => exact more_less (bs_pos W) hN Q1 (by assumption)
  · refine' ret _ _ _ (Fr.keep (by assumption)) (Exists.intro ?xsc (And.intro ?roc ?loc))
    case loc => exact LOut.mkL H2 (by assumption) (by ((intro p9 hp9; repeat (first | exact hp9 | refine List.Mem.tail _ ?_)))) (by assumption)
    case roc => exact more_end (bs_pos W) Q1 (by assumption) D9 Q2
  · have hT := D9.down1 hN (by omega)
    refine' ksw_end ⟨_, _, _, _, _, _, _, _, _, false, _, _, _⟩ (by assumption) (by assumption) (fun p hp => hp) trivial ?kkd ?ksd ?kpd ?kmd
    case kkd => kst_all
    case ksd => ksw_same
    case kpd =>
      dsimp only
      refine' ⟨ArgLst.new ?p1d, NewLst.new ?p2d, ?p3d, ?p4d, ?p5d, ?p6d, ?p7d, ?p8d, ?p9d, NewLst.mono H3 ?p10d, I3, Q3, l3⟩
      case p1d => k_mem
      case p2d => k_mem
      case p3d => assumption
      case p4d => assumption
      case p5d => assumption
      case p6d => assumption
      case p9d => exact hT
      case p7d => omega
      case p8d => exact more_len (by assumption) Q3 hT l3
      case p10d => ((intro p9 hp9; repeat (first | exact hp9 | refine List.Mem.tail _ ?_)))
    case kmd => exact more_less (bs_pos W) hN Q1 (by assumption)
  · have hT := D9.down0 hN (by omega)
    refine' ksw_end ⟨_, _, _, _, _, _, _, _, _, false, _, _, _⟩ (by assumption) (by assumption) (fun p hp => hp) trivial ?kke ?kse ?kpe ?kme
    case kke => kst_all
    case kse => ksw_same
    case kpe =>
      dsimp only
      refine' ⟨ArgLst.new ?p1e, NewLst.new ?p2e, ?p3e, ?p4e, ?p5e, ?p6e, ?p7e, ?p8e, ?p9e, NewLst.mono H3 ?p10e, I3, Q3, l3⟩
      case p1e => k_mem
      case p2e => k_mem
      case p3e => assumption
      case p4e => assumption
      case p5e => assumption
      case p6e => assumption
      case p9e => exact hT
      case p7e => omega
      case p8e => exact more_len (by assumption) Q3 hT l3
      case p10e => ((intro p9 hp9; repeat (first | exact hp9 | refine List.Mem.tail _ ?_)))
    case kme => exact more_less (bs_pos W) hN Q1 (by assumption)
  · refine' ret _ _ _ (Fr.keep (by assumption)) (Exists.intro ?xsf (And.intro ?rof ?lof))
    case lof => exact LOut.mkL H2 (by assumption) (by ((intro p9 hp9; repeat (first | exact hp9 | refine List.Mem.tail _ ?_)))) (by assumption)
    case rof => exact more_end (bs_pos W) Q1 (by assumption) D9 Q2

end FMore
local macro_rules | `(tactic| walk_at "compareOp NotEq ref ref") => `(tactic| (k_here; k_dflt (first | ((with_unfolding_all refine' ne_tup ?ht ?hu ?ha ?hb ?hc ?hd ?ia ?ib ?ic ?id ?e1 ?e2 ?hn ?_); (case ht => (first | exact tup_at (by assumption) (by assumption) | exact tup_new (by assumption) (by k_mem))); (case hu => (first | exact tup_at (by assumption) (by assumption) | exact tup_new (by assumption) (by k_mem))); (case ha => (first | (with_reducible assumption) | assumption | exact Fr.lst (by assumption) (by assumption) | exact News.isL (by assumption) (by k_mem) | exact News.isLp (by assumption) (by k_mem) | exact News.isL0 (by assumption) (by k_mem) | exact ArgLst.at' (by assumption) (by assumption) (by assumption) (by assumption) (by ((intro p9 hp9; repeat (first | exact hp9 | refine List.Mem.tail _ ?_)))) | exact NewLst.at' (by assumption) (by assumption) (by ((intro p9 hp9; repeat (first | exact hp9 | refine List.Mem.tail _ ?_)))) | exact IsLst.at' (by assumption) (by assumption) (by assumption) (by ((intro p9 hp9; repeat (first | exact hp9 | refine List.Mem.tail _ ?_)))))); (case hb => (first | (with_reducible assumption) | assumption | exact Fr.lst (by assumption) (by assumption) | exact News.isL (by assumption) (by k_mem) | exact News.isLp (by assumption) (by k_mem) | exact News.isL0 (by assumption) (by k_mem) | exact ArgLst.at' (by assumption) (by assumption) (by assumption) (by assumption) (by ((intro p9 hp9; repeat (first | exact hp9 | refine List.Mem.tail _ ?_)))) | exact NewLst.at' (by assumption) (by assumption) (by ((intro p9 hp9; repeat (first | exact hp9 | refine List.Mem.tail _ ?_)))) | exact IsLst.at' (by assumption) (by assumption) (by assumption) (by ((intro p9 hp9; repeat (first | exact hp9 | refine List.Mem.tail _ ?_)))))); (case hc => (first | (with_reducible assumption) | assumption | exact Fr.lst (by assumption) (by assumption) | exact News.isL (by assumption) (by k_mem) | exact News.isLp (by assumption) (by k_mem) | exact News.isL0 (by assumption) (by k_mem) | exact ArgLst.at' (by assumption) (by assumption) (by assumption) (by assumption) (by ((intro p9 hp9; repeat (first | exact hp9 | refine List.Mem.tail _ ?_)))) | exact NewLst.at' (by assumption) (by assumption) (by ((intro p9 hp9; repeat (first | exact hp9 | refine List.Mem.tail _ ?_)))) | exact IsLst.at' (by assumption) (by assumption) (by assumption) (by ((intro p9 hp9; repeat (first | exact hp9 | refine List.Mem.tail _ ?_)))))); (case hd => (first | (with_reducible assumption) | assumption | exact Fr.lst (by assumption) (by assumption) | exact News.isL (by assumption) (by k_mem) | exact News.isLp (by assumption) (by k_mem) | exact News.isL0 (by assumption) (by k_mem) | exact ArgLst.at' (by assumption) (by assumption) (by assumption) (by assumption) (by ((intro p9 hp9; repeat (first | exact hp9 | refine List.Mem.tail _ ?_)))) | exact NewLst.at' (by assumption) (by assumption) (by ((intro p9 hp9; repeat (first | exact hp9 | refine List.Mem.tail _ ?_)))) | exact IsLst.at' (by assumption) (by assumption) (by assumption) (by ((intro p9 hp9; repeat (first | exact hp9 | refine List.Mem.tail _ ?_)))))); (case ia => (first | assumption | exact IntsAre.nil | exact .cons _ _ .nil | exact IntsAre.append (by assumption) (.cons _ _ .nil))); (case ib => (first | assumption | exact IntsAre.nil | exact .cons _ _ .nil | exact IntsAre.append (by assumption) (.cons _ _ .nil))); (case ic => (first | assumption | exact IntsAre.nil | exact .cons _ _ .nil | exact IntsAre.append (by assumption) (.cons _ _ .nil))); (case id => (first | assumption | exact IntsAre.nil | exact .cons _ _ .nil | exact IntsAre.append (by assumption) (.cons _ _ .nil))); (case e1 => (first | rfl | exact Row.uniq (bs_pos _) (by assumption) (by assumption))); (case e2 => (first | rfl | exact Row.uniq (bs_pos _) (by assumption) (by assumption))); (case hn => ktr_units)) | ((with_unfolding_all refine' ne_ints_same ?ha ?hb ?hi ?hj ?hn ?hu ?_); (case ha => (first | (with_reducible assumption) | assumption | exact Fr.lst (by assumption) (by assumption) | exact News.isL (by assumption) (by k_mem) | exact News.isLp (by assumption) (by k_mem) | exact News.isL0 (by assumption) (by k_mem) | exact ArgLst.at' (by assumption) (by assumption) (by assumption) (by assumption) (by ((intro p9 hp9; repeat (first | exact hp9 | refine List.Mem.tail _ ?_)))) | exact NewLst.at' (by assumption) (by assumption) (by ((intro p9 hp9; repeat (first | exact hp9 | refine List.Mem.tail _ ?_)))) | exact IsLst.at' (by assumption) (by assumption) (by assumption) (by ((intro p9 hp9; repeat (first | exact hp9 | refine List.Mem.tail _ ?_)))))); (case hb => (first | (with_reducible assumption) | assumption | exact Fr.lst (by assumption) (by assumption) | exact News.isL (by assumption) (by k_mem) | exact News.isLp (by assumption) (by k_mem) | exact News.isL0 (by assumption) (by k_mem) | exact ArgLst.at' (by assumption) (by assumption) (by assumption) (by assumption) (by ((intro p9 hp9; repeat (first | exact hp9 | refine List.Mem.tail _ ?_)))) | exact NewLst.at' (by assumption) (by assumption) (by ((intro p9 hp9; repeat (first | exact hp9 | refine List.Mem.tail _ ?_)))) | exact IsLst.at' (by assumption) (by assumption) (by assumption) (by ((intro p9 hp9; repeat (first | exact hp9 | refine List.Mem.tail _ ?_)))))); (case hi => (first | assumption | exact IntsAre.nil | exact .cons _ _ .nil | exact IntsAre.append (by assumption) (.cons _ _ .nil))); (case hj => (first | assumption | exact IntsAre.nil | exact .cons _ _ .nil | exact IntsAre.append (by assumption) (.cons _ _ .nil))); (case hn => (first | rfl | exact Row.uniq (bs_pos _) (by assumption) (by assumption))); (case hu => ktr_units)))))
local macro_rules | `(tactic| walk_at "compareOp Eq ref ref") => `(tactic| (k_here; k_dflt ((with_unfolding_all refine' eq_ints_same ?ha ?hb ?hi ?hj ?hn ?hu ?_); (case ha => (first | (with_reducible assumption) | assumption | exact Fr.lst (by assumption) (by assumption) | exact News.isL (by assumption) (by k_mem) | exact News.isLp (by assumption) (by k_mem) | exact News.isL0 (by assumption) (by k_mem) | exact ArgLst.at' (by assumption) (by assumption) (by assumption) (by assumption) (by ((intro p9 hp9; repeat (first | exact hp9 | refine List.Mem.tail _ ?_)))) | exact NewLst.at' (by assumption) (by assumption) (by ((intro p9 hp9; repeat (first | exact hp9 | refine List.Mem.tail _ ?_)))) | exact IsLst.at' (by assumption) (by assumption) (by assumption) (by ((intro p9 hp9; repeat (first | exact hp9 | refine List.Mem.tail _ ?_)))))); (case hb => (first | (with_reducible assumption) | assumption | exact Fr.lst (by assumption) (by assumption) | exact News.isL (by assumption) (by k_mem) | exact News.isLp (by assumption) (by k_mem) | exact News.isL0 (by assumption) (by k_mem) | exact ArgLst.at' (by assumption) (by assumption) (by assumption) (by assumption) (by ((intro p9 hp9; repeat (first | exact hp9 | refine List.Mem.tail _ ?_)))) | exact NewLst.at' (by assumption) (by assumption) (by ((intro p9 hp9; repeat (first | exact hp9 | refine List.Mem.tail _ ?_)))) | exact IsLst.at' (by assumption) (by assumption) (by assumption) (by ((intro p9 hp9; repeat (first | exact hp9 | refine List.Mem.tail _ ?_)))))); (case hi => (first | assumption | exact IntsAre.nil | exact .cons _ _ .nil | exact IntsAre.append (by assumption) (.cons _ _ .nil))); (case hj => (first | assumption | exact IntsAre.nil | exact .cons _ _ .nil | exact IntsAre.append (by assumption) (.cons _ _ .nil))); (case hn => (first | rfl | exact Row.uniq (bs_pos _) (by assumption) (by assumption))); (case hu => ktr_units))))
local macro_rules | `(tactic| walk_at "binaryOp FloorDiv int int") => `(tactic| (k_here; (with_reducible refine PyProof.Rows.floordiv_int ?nz ?_ (Or.inl (PyProof.noPylong_of_log2 ?lg))); (case nz => first | assumption | omega); (case lg => assumption)))
local macro_rules | `(tactic| walk_at "binaryOp Mod int int") => `(tactic| (k_here; (with_reducible refine PyProof.Rows.mod_int' ?nz ?_); (case nz => first | assumption | omega)))
local macro_rules | `(tactic| walk_at "leaving ref") => `(tactic| (k_here; k_dflt ((refine' leaveLam ?k1 ?k2 ?k3 ?k4 ?_); (case k3 => assumption); (case k2 => assumption); (case k1 => assumption); (case k4 => assumption); k_whole); intro h' S' U'; (try dsimp only at S' U' ⊢)))
local macro_rules | `(tactic| walk_at "noteFrame ref") => `(tactic| (k_here; k_dflt ((refine' caughtLoc ?R ?F ?K ?U ?XB ?TB ?D ?T0 ?hv ?q ?_); (case R => assumption); (case F => assumption); (case K => assumption); (case U => assumption); (case XB => assumption); (case TB => assumption); (case D => assumption); (case T0 => first | assumption | exact KtsTurn.refl); (case hv => exact rfl); (case q => kts_isx); k_whole); intro h' g' T' F' N' K' X' P' D'; (try k_lift K'); (try k_sweep)))
local macro_rules | `(tactic| k_qdec) => `(tactic| decide +kernel)
section GLaw
theorem fill_GLaw : PySem.Challenge.rw_nn0009_01.prog = PySem.Challenge.rw_nn0009_01.prog ∧ hd.heap_39 = hd.heap_39 := by
  w_top off
  k_fill
  exact ⟨rfl, rfl⟩
set_option maxHeartbeats 0 in
theorem law_holds : PySem.Challenge.rw_nn0009_01.Holds := by
  refine hd ?_
  k_go0
  all_goals (try k_fold)
  refine wp_absE ?_
  intro QQ hQQ
  repeat (first | ((fail_if_success (with_reducible show wpAny _ _ (call (Value.ref 210) _ _) _ _ _)); (first | (first | ((with_reducible show wpAny _ _ (execs (_ :: _) _) _ _ _); walk1; refine wp_abs ?_; intro _ _; (try dsimp only)) | ((with_reducible refine use_abs (α := Flow) (by with_reducible assumption) ?_); (try (rename ∀ (_ : Flow) (_ : Shared), _ → _ => z9; clear z9)); (try (rename Flow → Shared → Prop => z8; clear z8)); (try dsimp only)) | (k_unfold; (try dsimp only)) | (k_end; kc_close) | walk1 | (dsimp only; walk1) | (leave1; (try dsimp only))))))
  (k_here; (with_reducible show wpAny _ _ (call (Value.ref 210) _ _) _ _ _); k_dflt ((with_unfolding_all refine' callBox (box_fn _ _ _ _ _ ?hl ?hi ?hs _) ?kB ?kF ?kX ?kN ?kT ?kA ?kf ?kk ?k1 ?k2 ?k3 ?_); (case hl => (first | (with_reducible assumption) | assumption | exact Fr.lst (by assumption) (by assumption) | exact News.isL (by assumption) (by k_mem) | exact News.isLp (by assumption) (by k_mem) | exact News.isL0 (by assumption) (by k_mem) | exact ArgLst.at' (by assumption) (by assumption) (by assumption) (by assumption) (by ((intro p9 hp9; repeat (first | exact hp9 | refine List.Mem.tail _ ?_)))) | exact NewLst.at' (by assumption) (by assumption) (by ((intro p9 hp9; repeat (first | exact hp9 | refine List.Mem.tail _ ?_)))) | exact IsLst.at' (by assumption) (by assumption) (by assumption) (by ((intro p9 hp9; repeat (first | exact hp9 | refine List.Mem.tail _ ?_)))))); (case hi => (first | assumption | exact IntsAre.nil | exact .cons _ _ .nil | exact IntsAre.append (by assumption) (.cons _ _ .nil))); (case hs => (first | assumption | omega)); (case kB => k_asm); (case kF => k_asm); (case kX => k_asm); (case kN => k_asm); (case kT => k_asm); (case kA => exact rfl); (case kf => exact rfl); (case kk => exact rfl); (case k1 => ktr_room); (case k2 => ktr_units); (case k3 => exact rfl); k_whole; intro b9 l9 t9 r9 u9 n9 its9 k9 xs9 h9 tk9 F9 N9 hi9 hs9 hr9 hlb9 ne9; (try dsimp only); (try k_fold)))
  repeat (first | ((fail_if_success (with_reducible show wpAny _ _ (call (Value.ref 198) _ _) _ _ _)); (first | (first | ((with_reducible show wpAny _ _ (execs (_ :: _) _) _ _ _); walk1; refine wp_abs ?_; intro _ _; (try dsimp only)) | ((with_reducible refine use_abs (α := Flow) (by with_reducible assumption) ?_); (try (rename ∀ (_ : Flow) (_ : Shared), _ → _ => z9; clear z9)); (try (rename Flow → Shared → Prop => z8; clear z8)); (try dsimp only)) | (k_unfold; (try dsimp only)) | (k_end; kc_close) | walk1 | (dsimp only; walk1) | (leave1; (try dsimp only))))))
  (k_here; (with_reducible show wpAny _ _ (call (Value.ref 198) _ _) _ _ _); k_dflt ((with_unfolding_all refine' callB (draw_fn _ _ _ _ _ _ _ _ _ _ _ ?hb ?hl ?hi ?hs ?hi0 ?hr _ _ ?hm) ?kB ?kF ?kX ?kN ?kT ?kA ?kf ?kk ?k1 ?k2 ?k3 ?kU ?_); (case hb => exact News.get (by assumption) (by k_mem)); (case hl => (first | (refine hide_list ?hk9 ?hn9; (case hk9 => (first | (with_reducible assumption) | assumption | exact Fr.lst (by assumption) (by assumption) | exact News.isL (by assumption) (by k_mem) | exact News.isLp (by assumption) (by k_mem) | exact News.isL0 (by assumption) (by k_mem) | exact ArgLst.at' (by assumption) (by assumption) (by assumption) (by assumption) (by ((intro p9 hp9; repeat (first | exact hp9 | refine List.Mem.tail _ ?_)))) | exact NewLst.at' (by assumption) (by assumption) (by ((intro p9 hp9; repeat (first | exact hp9 | refine List.Mem.tail _ ?_)))) | exact IsLst.at' (by assumption) (by assumption) (by assumption) (by ((intro p9 hp9; repeat (first | exact hp9 | refine List.Mem.tail _ ?_)))))); (case hn9 => first | assumption | k_ne)))); (case hi => (first | assumption | exact IntsAre.nil | exact .cons _ _ .nil | exact IntsAre.append (by assumption) (.cons _ _ .nil))); (case hs => (first | assumption | omega)); (case hi0 => (first | assumption | omega)); (case hr => assumption); (case hm => (first | assumption | omega)); (case kB => k_asm); (case kF => k_asm); (case kX => k_asm); (case kN => k_asm); (case kT => k_asm); (case kA => exact rfl); (case kf => exact rfl); (case kk => exact rfl); (case k1 => ktr_room); (case k2 => ktr_units); (case k3 => exact rfl); (case kU => (((try simp only [List.append_eq, List.cons_append, List.nil_append]); repeat (first | exact UpdF.head (by k_all) | refine UpdF.tail (by k_ne) ?_)))); k_whole; intro i9 t9 bo9 h9 tk9 F9 N9 hp9; (try simp only [List.append_eq, List.cons_append, List.nil_append] at N9); obtain ⟨hd9, tb9, rb9, ub9, nb9, eb9, hr9⟩ := hp9; subst eb9; (skip); (try dsimp only); (try k_fold)))
  repeat (first | ((fail_if_success (with_reducible show wpAny _ _ (call (Value.ref 205) _ _) _ _ _)); (first | (first | ((with_reducible show wpAny _ _ (execs (_ :: _) _) _ _ _); walk1; refine wp_abs ?_; intro _ _; (try dsimp only)) | ((with_reducible refine use_abs (α := Flow) (by with_reducible assumption) ?_); (try (rename ∀ (_ : Flow) (_ : Shared), _ → _ => z9; clear z9)); (try (rename Flow → Shared → Prop => z8; clear z8)); (try dsimp only)) | (k_unfold; (try dsimp only)) | (k_end; kc_close) | walk1 | (dsimp only; walk1) | (leave1; (try dsimp only))))))
  (k_here; (with_reducible show wpAny _ _ (call (Value.ref 205) _ _) _ _ _); k_dflt ((with_unfolding_all refine' callB (size_fn _ _ _ _ _ _ _ _ _ _ _ ?hb ?hl ?hi ?hs ?hi0 ?hr _ _ ?hW _ _ ?hm) ?kB ?kF ?kX ?kN ?kT ?kA ?kf ?kk ?k1 ?k2 ?k3 ?kU ?_); (case hb => exact News.get (by assumption) (by k_mem)); (case hl => (first | (refine hide_list ?hk9 ?hn9; (case hk9 => (first | (with_reducible assumption) | assumption | exact Fr.lst (by assumption) (by assumption) | exact News.isL (by assumption) (by k_mem) | exact News.isLp (by assumption) (by k_mem) | exact News.isL0 (by assumption) (by k_mem) | exact ArgLst.at' (by assumption) (by assumption) (by assumption) (by assumption) (by ((intro p9 hp9; repeat (first | exact hp9 | refine List.Mem.tail _ ?_)))) | exact NewLst.at' (by assumption) (by assumption) (by ((intro p9 hp9; repeat (first | exact hp9 | refine List.Mem.tail _ ?_)))) | exact IsLst.at' (by assumption) (by assumption) (by assumption) (by ((intro p9 hp9; repeat (first | exact hp9 | refine List.Mem.tail _ ?_)))))); (case hn9 => first | assumption | k_ne)))); (case hi => (first | assumption | exact IntsAre.nil | exact .cons _ _ .nil | exact IntsAre.append (by assumption) (.cons _ _ .nil))); (case hs => (first | assumption | omega)); (case hi0 => (first | assumption | omega)); (case hr => assumption); (case hm => (first | assumption | omega)); (case hW => (first | assumption | omega)); (case kB => k_asm); (case kF => k_asm); (case kX => k_asm); (case kN => k_asm); (case kT => k_asm); (case kA => exact rfl); (case kf => exact rfl); (case kk => exact rfl); (case k1 => ktr_room); (case k2 => ktr_units); (case k3 => exact rfl); (case kU => (((try simp only [List.append_eq, List.cons_append, List.nil_append]); repeat (first | exact UpdF.head (by k_all) | refine UpdF.tail (by k_ne) ?_)))); k_whole; intro i9 t9 bo9 h9 tk9 F9 N9 hp9; (try simp only [List.append_eq, List.cons_append, List.nil_append] at N9); obtain ⟨hd9, ib9, hib9, tb9, rb9, ub9, nb9, eb9, hr9⟩ := hp9; subst eb9; (try dsimp only); (try k_fold)))
  repeat (first | ((fail_if_success (with_reducible show wpAny _ _ (call (Value.ref 205) _ _) _ _ _)); (first | (first | ((with_reducible show wpAny _ _ (execs (_ :: _) _) _ _ _); walk1; refine wp_abs ?_; intro _ _; (try dsimp only)) | ((with_reducible refine use_abs (α := Flow) (by with_reducible assumption) ?_); (try (rename ∀ (_ : Flow) (_ : Shared), _ → _ => z9; clear z9)); (try (rename Flow → Shared → Prop => z8; clear z8)); (try dsimp only)) | (k_unfold; (try dsimp only)) | (k_end; kc_close) | walk1 | (dsimp only; walk1) | (leave1; (try dsimp only))))))
  (k_here; (with_reducible show wpAny _ _ (call (Value.ref 205) _ _) _ _ _); k_dflt ((with_unfolding_all refine' callB (size_fn _ _ _ _ _ _ _ _ _ _ _ ?hb ?hl ?hi ?hs ?hi0 ?hr _ _ ?hW _ _ ?hm) ?kB ?kF ?kX ?kN ?kT ?kA ?kf ?kk ?k1 ?k2 ?k3 ?kU ?_); (case hb => exact News.get (by assumption) (by k_mem)); (case hl => (first | (refine hide_list ?hk9 ?hn9; (case hk9 => (first | (with_reducible assumption) | assumption | exact Fr.lst (by assumption) (by assumption) | exact News.isL (by assumption) (by k_mem) | exact News.isLp (by assumption) (by k_mem) | exact News.isL0 (by assumption) (by k_mem) | exact ArgLst.at' (by assumption) (by assumption) (by assumption) (by assumption) (by ((intro p9 hp9; repeat (first | exact hp9 | refine List.Mem.tail _ ?_)))) | exact NewLst.at' (by assumption) (by assumption) (by ((intro p9 hp9; repeat (first | exact hp9 | refine List.Mem.tail _ ?_)))) | exact IsLst.at' (by assumption) (by assumption) (by assumption) (by ((intro p9 hp9; repeat (first | exact hp9 | refine List.Mem.tail _ ?_)))))); (case hn9 => first | assumption | k_ne)))); (case hi => (first | assumption | exact IntsAre.nil | exact .cons _ _ .nil | exact IntsAre.append (by assumption) (.cons _ _ .nil))); (case hs => (first | assumption | omega)); (case hi0 => (first | assumption | omega)); (case hr => assumption); (case hm => (first | assumption | omega)); (case hW => (first | assumption | omega)); (case kB => k_asm); (case kF => k_asm); (case kX => k_asm); (case kN => k_asm); (case kT => k_asm); (case kA => exact rfl); (case kf => exact rfl); (case kk => exact rfl); (case k1 => ktr_room); (case k2 => ktr_units); (case k3 => exact rfl); (case kU => (((try simp only [List.append_eq, List.cons_append, List.nil_append]); repeat (first | exact UpdF.head (by k_all) | refine UpdF.tail (by k_ne) ?_)))); k_whole; intro i9 t9 bo9 h9 tk9 F9 N9 hp9; (try simp only [List.append_eq, List.cons_append, List.nil_append] at N9); obtain ⟨hd9, ib9, hib9, tb9, rb9, ub9, nb9, eb9, hr9⟩ := hp9; subst eb9; (try dsimp only); (try k_fold)))
  repeat (first | ((fail_if_success (with_reducible show wpAny _ _ (call (Value.ref 170) _ _) _ _ _)); (first | (first | ((with_reducible show wpAny _ _ (execs (_ :: _) _) _ _ _); walk1; refine wp_abs ?_; intro _ _; (try dsimp only)) | ((with_reducible refine use_abs (α := Flow) (by with_reducible assumption) ?_); (try (rename ∀ (_ : Flow) (_ : Shared), _ → _ => z9; clear z9)); (try (rename Flow → Shared → Prop => z8; clear z8)); (try dsimp only)) | (k_unfold; (try dsimp only)) | (k_end; kc_close) | walk1 | (dsimp only; walk1) | (leave1; (try dsimp only))))))
  rename 0 ≤ _ ∧ _ < 8 => hw8
  rename 0 ≤ _ ∧ _ < bs _ ^ Int.toNat 4 => hm8
  rename 0 ≤ _ ∧ _ < bs _ ^ Int.toNat 12 => hx8
  have hW := law_w hw8
  obtain ⟨hM0, hM1, hM4, hM300⟩ := law_m (bs_two hW.1) hm8
  obtain ⟨hX0, hX12, hX300⟩ := law_x (bs_two hW.1) hx8
  (k_here; (with_reducible show wpAny _ _ (call (Value.ref 170) _ _) _ _ _); k_dflt ((with_unfolding_all refine' callL2 (row_fn _ _ _ _ ?hW _ _ ?hx ?hcap) ?kB ?kF ?kX ?kN ?kT ?kA ?kf ?kk ?k1 ?k2 ?k3 ?_); (case hW => (first | assumption | omega)); (case hx => (first | assumption | omega)); (case hcap => (first | assumption | omega)); (case kB => k_asm); (case kF => k_asm); (case kX => k_asm); (case kN => k_asm); (case kT => k_asm); (case kA => exact rfl); (case kf => exact rfl); (case kk => exact rfl); (case k1 => ktr_room); (case k2 => ktr_units); (case k3 => exact rfl); k_whole; intro la9 va9 n9 xs9 h9 tk9 F9 N9 ne9 hi9 hp9; (try dsimp only); (try k_fold)))
  repeat (first | ((fail_if_success (with_reducible show wpAny _ _ (call (Value.ref 170) _ _) _ _ _)); (first | (first | ((with_reducible show wpAny _ _ (execs (_ :: _) _) _ _ _); walk1; refine wp_abs ?_; intro _ _; (try dsimp only)) | ((with_reducible refine use_abs (α := Flow) (by with_reducible assumption) ?_); (try (rename ∀ (_ : Flow) (_ : Shared), _ → _ => z9; clear z9)); (try (rename Flow → Shared → Prop => z8; clear z8)); (try dsimp only)) | (k_unfold; (try dsimp only)) | (k_end; kc_close) | walk1 | (dsimp only; walk1) | (leave1; (try dsimp only))))))
  (k_here; (with_reducible show wpAny _ _ (call (Value.ref 170) _ _) _ _ _); k_dflt ((with_unfolding_all refine' callL2 (row_fn _ _ _ _ ?hW _ _ ?hx ?hcap) ?kB ?kF ?kX ?kN ?kT ?kA ?kf ?kk ?k1 ?k2 ?k3 ?_); (case hW => (first | assumption | omega)); (case hx => (first | assumption | omega)); (case hcap => (first | assumption | omega)); (case kB => k_asm); (case kF => k_asm); (case kX => k_asm); (case kN => k_asm); (case kT => k_asm); (case kA => exact rfl); (case kf => exact rfl); (case kk => exact rfl); (case k1 => ktr_room); (case k2 => ktr_units); (case k3 => exact rfl); k_whole; intro la9 va9 n9 xs9 h9 tk9 F9 N9 ne9 hi9 hp9; (try dsimp only); (try k_fold)))
  rename Row _ _ (ite _ _ _) => RM
  rename Row _ _ _ => RX
  have hMp := Int.lt_of_lt_of_le (by decide : (0 : Int) < 1) hM1
  have hne := row_ne (bs_pos _) RM hMp
  have hml4 := RM.len_le (bs_pos _) hM4
  have hxl12 := RX.len_le (bs_pos _) hX12
  have hxp := law_exp hW hml4
  have hlg := row_log hW RM (by omega)
  have hMnz := Int.ne_of_gt hMp
  obtain ⟨hq0, hq300, eq0⟩ := law_q hW hml4 hMp
  obtain ⟨dd0, dd1, dd2, dd3, dd4, dd5⟩ := law_dm hX0 hX300 hMp
  obtain ⟨hS0, hS1, hS2⟩ := law_small' hml4 hW hX0 hX300
  repeat (first | ((fail_if_success (with_reducible show wpAny _ _ (call (Value.ref 128) _ _) _ _ _)); (first | (first | ((with_reducible show wpAny _ _ (execs (_ :: _) _) _ _ _); walk1; refine wp_abs ?_; intro _ _; (try dsimp only)) | ((with_reducible refine use_abs (α := Flow) (by with_reducible assumption) ?_); (try (rename ∀ (_ : Flow) (_ : Shared), _ → _ => z9; clear z9)); (try (rename Flow → Shared → Prop => z8; clear z8)); (try dsimp only)) | (k_unfold; (try dsimp only)) | (k_end; kc_close) | walk1 | (dsimp only; walk1) | (leave1; (try dsimp only))))))
  (k_here; (with_reducible show wpAny _ _ (call (Value.ref 128) _ _) _ _ _); k_dflt ((with_unfolding_all refine' callU2 (make_fn _ _ _ _ ?hW _ _ _ _ ?hl ?hi ?hs ?R ?hne ?hs4 ?hx _ rfl) ?kB ?kF ?kX ?kN ?kT ?kA ?kf ?kk ?k1 ?k2 ?k3 ?_); (case hl => (first | (with_reducible assumption) | assumption | exact Fr.lst (by assumption) (by assumption) | exact News.isL (by assumption) (by k_mem) | exact News.isLp (by assumption) (by k_mem) | exact News.isL0 (by assumption) (by k_mem) | exact ArgLst.at' (by assumption) (by assumption) (by assumption) (by assumption) (by ((intro p9 hp9; repeat (first | exact hp9 | refine List.Mem.tail _ ?_)))) | exact NewLst.at' (by assumption) (by assumption) (by ((intro p9 hp9; repeat (first | exact hp9 | refine List.Mem.tail _ ?_)))) | exact IsLst.at' (by assumption) (by assumption) (by assumption) (by ((intro p9 hp9; repeat (first | exact hp9 | refine List.Mem.tail _ ?_)))))); (case hi => (first | assumption | exact IntsAre.nil | exact .cons _ _ .nil | exact IntsAre.append (by assumption) (.cons _ _ .nil))); (case hs => (first | assumption | omega | (have e := ‹_ = (rangeKs _ _).length›; rw [rangeKs_length] at e; omega) | (simp only [List.length_append, List.length_cons, List.length_nil, List.length_replicate, List.length_take, List.length_drop]; omega))); (case R => (assumption)); (case hne => (assumption)); (case hs4 => (first | assumption | omega | (have e := ‹_ = (rangeKs _ _).length›; rw [rangeKs_length] at e; omega) | (simp only [List.length_append, List.length_cons, List.length_nil, List.length_replicate, List.length_take, List.length_drop]; omega))); (case hx => (first | assumption | omega)); (case hW => (first | assumption | omega)); (case kB => k_asm); (case kF => k_asm); (case kX => k_asm); (case kN => k_asm); (case kT => k_asm); (case kA => exact rfl); (case kf => exact rfl); (case kk => exact rfl); (case k1 => ktr_room); (case k2 => ktr_units); (case k3 => exact rfl); k_whole; intro tt9 lb9 vb9 nb9 ys9 h9 tk9 F9 N9 ne9 ne8 hib9 hp9; obtain ⟨hr9, hq9⟩ := hp9; (try simp only [List.length_cons, List.length_nil] at hq9); (try dsimp only); (try k_fold)))
  repeat (first | ((fail_if_success (with_reducible show wpAny _ _ (call (Value.ref 170) _ _) _ _ _)); (first | (first | ((with_reducible show wpAny _ _ (execs (_ :: _) _) _ _ _); walk1; refine wp_abs ?_; intro _ _; (try dsimp only)) | ((with_reducible refine use_abs (α := Flow) (by with_reducible assumption) ?_); (try (rename ∀ (_ : Flow) (_ : Shared), _ → _ => z9; clear z9)); (try (rename Flow → Shared → Prop => z8; clear z8)); (try dsimp only)) | (k_unfold; (try dsimp only)) | (k_end; kc_close) | walk1 | (dsimp only; walk1) | (leave1; (try dsimp only))))))
  (k_here; (with_reducible show wpAny _ _ (call (Value.ref 170) _ _) _ _ _); k_dflt ((with_unfolding_all refine' callL2 (row_fn _ _ _ _ ?hW _ _ ?hx ?hcap) ?kB ?kF ?kX ?kN ?kT ?kA ?kf ?kk ?k1 ?k2 ?k3 ?_); (case hW => (first | assumption | omega)); (case hx => (first | assumption | omega)); (case hcap => (first | assumption | omega)); (case kB => k_asm); (case kF => k_asm); (case kX => k_asm); (case kN => k_asm); (case kT => k_asm); (case kA => exact rfl); (case kf => exact rfl); (case kk => exact rfl); (case k1 => ktr_room); (case k2 => ktr_units); (case k3 => exact rfl); k_whole; intro la9 va9 n9 xs9 h9 tk9 F9 N9 ne9 hi9 hp9; (try dsimp only); (try k_fold)))
  rename Row _ _ (Int.fdiv _ _) => RQ
  rw [eq0] at RQ
  repeat (first | ((fail_if_success (with_reducible show wpAny _ _ (call (Value.ref 170) _ _) _ _ _)); (first | (first | ((with_reducible show wpAny _ _ (execs (_ :: _) _) _ _ _); walk1; refine wp_abs ?_; intro _ _; (try dsimp only)) | ((with_reducible refine use_abs (α := Flow) (by with_reducible assumption) ?_); (try (rename ∀ (_ : Flow) (_ : Shared), _ → _ => z9; clear z9)); (try (rename Flow → Shared → Prop => z8; clear z8)); (try dsimp only)) | (k_unfold; (try dsimp only)) | (k_end; kc_close) | walk1 | (dsimp only; walk1) | (leave1; (try dsimp only))))))
  (k_here; (with_reducible show wpAny _ _ (call (Value.ref 170) _ _) _ _ _); k_dflt ((with_unfolding_all refine' callL2 (row_fn _ _ _ _ ?hW _ _ ?hx ?hcap) ?kB ?kF ?kX ?kN ?kT ?kA ?kf ?kk ?k1 ?k2 ?k3 ?_); (case hW => (first | assumption | omega)); (case hx => (first | assumption | omega)); (case hcap => (first | assumption | omega)); (case kB => k_asm); (case kF => k_asm); (case kX => k_asm); (case kN => k_asm); (case kT => k_asm); (case kA => exact rfl); (case kf => exact rfl); (case kk => exact rfl); (case k1 => ktr_room); (case k2 => ktr_units); (case k3 => exact rfl); k_whole; intro la9 va9 n9 xs9 h9 tk9 F9 N9 ne9 hi9 hp9; (try dsimp only); (try k_fold)))
  repeat (first | ((fail_if_success (with_reducible show wpAny _ _ (call (Value.ref 170) _ _) _ _ _)); (first | (first | ((with_reducible show wpAny _ _ (execs (_ :: _) _) _ _ _); walk1; refine wp_abs ?_; intro _ _; (try dsimp only)) | ((with_reducible refine use_abs (α := Flow) (by with_reducible assumption) ?_); (try (rename ∀ (_ : Flow) (_ : Shared), _ → _ => z9; clear z9)); (try (rename Flow → Shared → Prop => z8; clear z8)); (try dsimp only)) | (k_unfold; (try dsimp only)) | (k_end; kc_close) | walk1 | (dsimp only; walk1) | (leave1; (try dsimp only))))))
  (k_here; (with_reducible show wpAny _ _ (call (Value.ref 170) _ _) _ _ _); k_dflt ((with_unfolding_all refine' callL2 (row_fn _ _ _ _ ?hW _ _ ?hx ?hcap) ?kB ?kF ?kX ?kN ?kT ?kA ?kf ?kk ?k1 ?k2 ?k3 ?_); (case hW => (first | assumption | omega)); (case hx => (first | assumption | omega)); (case hcap => (first | assumption | omega)); (case kB => k_asm); (case kF => k_asm); (case kX => k_asm); (case kN => k_asm); (case kT => k_asm); (case kA => exact rfl); (case kf => exact rfl); (case kk => exact rfl); (case k1 => ktr_room); (case k2 => ktr_units); (case k3 => exact rfl); k_whole; intro la9 va9 n9 xs9 h9 tk9 F9 N9 ne9 hi9 hp9; (try dsimp only); (try k_fold)))
  rename Row _ _ (Int.fdiv _ _) => RD
  rename Row _ _ (Int.fmod _ _) => RR
  rw [dd2] at RD
  rw [dd5] at RR
  repeat (first | ((fail_if_success (with_reducible show wpAny _ _ (call (Value.ref 142) _ _) _ _ _)); (first | (first | ((with_reducible show wpAny _ _ (execs (_ :: _) _) _ _ _); walk1; refine wp_abs ?_; intro _ _; (try dsimp only)) | ((with_reducible refine use_abs (α := Flow) (by with_reducible assumption) ?_); (try (rename ∀ (_ : Flow) (_ : Shared), _ → _ => z9; clear z9)); (try (rename Flow → Shared → Prop => z8; clear z8)); (try dsimp only)) | (k_unfold; (try dsimp only)) | (k_end; kc_close) | walk1 | (dsimp only; walk1) | (leave1; (try dsimp only))))))
  (k_here; (with_reducible show wpAny _ _ (call (Value.ref 142) _ _) _ _ _); k_dflt ((with_unfolding_all refine' callT2 (div_fn _ _ _ _ ?hW _ _ _ _ ?hl ?hi ?R ?hs _ _ _ _ ?hlm ?him ?S ?hm0 ?hm4 _ _ _ ?hlv ?hiv ?V ?hv _ ?htt _ rfl) ?kB ?kF ?kX ?kN ?kT ?kA ?kf ?kk ?k1 ?k2 ?k3 ?_); (case htt => (first | exact tup_at (by assumption) (by assumption) | exact tup_new (by assumption) (by k_mem))); (case hl => (first | (with_reducible assumption) | assumption | exact Fr.lst (by assumption) (by assumption) | exact News.isL (by assumption) (by k_mem) | exact News.isLp (by assumption) (by k_mem) | exact News.isL0 (by assumption) (by k_mem) | exact ArgLst.at' (by assumption) (by assumption) (by assumption) (by assumption) (by ((intro p9 hp9; repeat (first | exact hp9 | refine List.Mem.tail _ ?_)))) | exact NewLst.at' (by assumption) (by assumption) (by ((intro p9 hp9; repeat (first | exact hp9 | refine List.Mem.tail _ ?_)))) | exact IsLst.at' (by assumption) (by assumption) (by assumption) (by ((intro p9 hp9; repeat (first | exact hp9 | refine List.Mem.tail _ ?_)))))); (case hi => (first | assumption | exact IntsAre.nil | exact .cons _ _ .nil | exact IntsAre.append (by assumption) (.cons _ _ .nil))); (case R => (assumption)); (case hlm => (first | (with_reducible assumption) | assumption | exact Fr.lst (by assumption) (by assumption) | exact News.isL (by assumption) (by k_mem) | exact News.isLp (by assumption) (by k_mem) | exact News.isL0 (by assumption) (by k_mem) | exact ArgLst.at' (by assumption) (by assumption) (by assumption) (by assumption) (by ((intro p9 hp9; repeat (first | exact hp9 | refine List.Mem.tail _ ?_)))) | exact NewLst.at' (by assumption) (by assumption) (by ((intro p9 hp9; repeat (first | exact hp9 | refine List.Mem.tail _ ?_)))) | exact IsLst.at' (by assumption) (by assumption) (by assumption) (by ((intro p9 hp9; repeat (first | exact hp9 | refine List.Mem.tail _ ?_)))))); (case him => (first | assumption | exact IntsAre.nil | exact .cons _ _ .nil | exact IntsAre.append (by assumption) (.cons _ _ .nil))); (case S => (assumption)); (case hm0 => assumption); (case hm4 => assumption); (case hs => (first | assumption | omega | (have e := ‹_ = (rangeKs _ _).length›; rw [rangeKs_length] at e; omega) | (simp only [List.length_append, List.length_cons, List.length_nil, List.length_replicate, List.length_take, List.length_drop]; omega))); (case hlv => (first | (with_reducible assumption) | assumption | exact Fr.lst (by assumption) (by assumption) | exact News.isL (by assumption) (by k_mem) | exact News.isLp (by assumption) (by k_mem) | exact News.isL0 (by assumption) (by k_mem) | exact ArgLst.at' (by assumption) (by assumption) (by assumption) (by assumption) (by ((intro p9 hp9; repeat (first | exact hp9 | refine List.Mem.tail _ ?_)))) | exact NewLst.at' (by assumption) (by assumption) (by ((intro p9 hp9; repeat (first | exact hp9 | refine List.Mem.tail _ ?_)))) | exact IsLst.at' (by assumption) (by assumption) (by assumption) (by ((intro p9 hp9; repeat (first | exact hp9 | refine List.Mem.tail _ ?_)))))); (case hiv => (first | assumption | exact IntsAre.nil | exact .cons _ _ .nil | exact IntsAre.append (by assumption) (.cons _ _ .nil))); (case V => assumption); (case hv => assumption); (case hW => (first | assumption | omega)); (case kB => k_asm); (case kF => k_asm); (case kX => k_asm); (case kN => k_asm); (case kT => k_asm); (case kA => exact rfl); (case kf => exact rfl); (case kk => exact rfl); (case k1 => ktr_room); (case k2 => ktr_units); (case k3 => exact rfl); k_whole; intro tt9 la9 lb9 va9 n9 vb9 nb9 xs9 ys9 h9 tk9 F9 N9 ne9 ne8 ne7 hi9 hib9 hp9; obtain ⟨hr9, hq9⟩ := hp9; (try simp only [List.length_cons, List.length_nil] at hq9); (try dsimp only); (try k_fold)))
  repeat (first | ((fail_if_success (with_reducible show wpAny _ _ (call (Value.ref 149) _ _) _ _ _)); (first | (first | ((with_reducible show wpAny _ _ (execs (_ :: _) _) _ _ _); walk1; refine wp_abs ?_; intro _ _; (try dsimp only)) | ((with_reducible refine use_abs (α := Flow) (by with_reducible assumption) ?_); (try (rename ∀ (_ : Flow) (_ : Shared), _ → _ => z9; clear z9)); (try (rename Flow → Shared → Prop => z8; clear z8)); (try dsimp only)) | (k_unfold; (try dsimp only)) | (k_end; kc_close) | walk1 | (dsimp only; walk1) | (leave1; (try dsimp only))))))
  (k_here; (with_reducible show wpAny _ _ (call (Value.ref 149) _ _) _ _ _); k_dflt ((with_unfolding_all refine' callL2 (rest_fn _ _ _ _ ?hW _ _ _ _ ?hl ?hi ?R ?hs _ _ _ _ ?hlm ?him ?S ?hm0 ?hm4 _ _ _ ?hlv ?hiv ?V ?hv _ ?htt _ rfl) ?kB ?kF ?kX ?kN ?kT ?kA ?kf ?kk ?k1 ?k2 ?k3 ?_); (case htt => (first | exact tup_at (by assumption) (by assumption) | exact tup_new (by assumption) (by k_mem))); (case hl => (first | (with_reducible assumption) | assumption | exact Fr.lst (by assumption) (by assumption) | exact News.isL (by assumption) (by k_mem) | exact News.isLp (by assumption) (by k_mem) | exact News.isL0 (by assumption) (by k_mem) | exact ArgLst.at' (by assumption) (by assumption) (by assumption) (by assumption) (by ((intro p9 hp9; repeat (first | exact hp9 | refine List.Mem.tail _ ?_)))) | exact NewLst.at' (by assumption) (by assumption) (by ((intro p9 hp9; repeat (first | exact hp9 | refine List.Mem.tail _ ?_)))) | exact IsLst.at' (by assumption) (by assumption) (by assumption) (by ((intro p9 hp9; repeat (first | exact hp9 | refine List.Mem.tail _ ?_)))))); (case hi => (first | assumption | exact IntsAre.nil | exact .cons _ _ .nil | exact IntsAre.append (by assumption) (.cons _ _ .nil))); (case R => (assumption)); (case hlm => (first | (with_reducible assumption) | assumption | exact Fr.lst (by assumption) (by assumption) | exact News.isL (by assumption) (by k_mem) | exact News.isLp (by assumption) (by k_mem) | exact News.isL0 (by assumption) (by k_mem) | exact ArgLst.at' (by assumption) (by assumption) (by assumption) (by assumption) (by ((intro p9 hp9; repeat (first | exact hp9 | refine List.Mem.tail _ ?_)))) | exact NewLst.at' (by assumption) (by assumption) (by ((intro p9 hp9; repeat (first | exact hp9 | refine List.Mem.tail _ ?_)))) | exact IsLst.at' (by assumption) (by assumption) (by assumption) (by ((intro p9 hp9; repeat (first | exact hp9 | refine List.Mem.tail _ ?_)))))); (case him => (first | assumption | exact IntsAre.nil | exact .cons _ _ .nil | exact IntsAre.append (by assumption) (.cons _ _ .nil))); (case S => (assumption)); (case hm0 => assumption); (case hm4 => (first | assumption | omega | (have e := ‹_ = (rangeKs _ _).length›; rw [rangeKs_length] at e; omega) | (simp only [List.length_append, List.length_cons, List.length_nil, List.length_replicate, List.length_take, List.length_drop]; omega))); (case hs => (first | assumption | omega | (have e := ‹_ = (rangeKs _ _).length›; rw [rangeKs_length] at e; omega) | (simp only [List.length_append, List.length_cons, List.length_nil, List.length_replicate, List.length_take, List.length_drop]; omega))); (case hlv => (first | (with_reducible assumption) | assumption | exact Fr.lst (by assumption) (by assumption) | exact News.isL (by assumption) (by k_mem) | exact News.isLp (by assumption) (by k_mem) | exact News.isL0 (by assumption) (by k_mem) | exact ArgLst.at' (by assumption) (by assumption) (by assumption) (by assumption) (by ((intro p9 hp9; repeat (first | exact hp9 | refine List.Mem.tail _ ?_)))) | exact NewLst.at' (by assumption) (by assumption) (by ((intro p9 hp9; repeat (first | exact hp9 | refine List.Mem.tail _ ?_)))) | exact IsLst.at' (by assumption) (by assumption) (by assumption) (by ((intro p9 hp9; repeat (first | exact hp9 | refine List.Mem.tail _ ?_)))))); (case hiv => (first | assumption | exact IntsAre.nil | exact .cons _ _ .nil | exact IntsAre.append (by assumption) (.cons _ _ .nil))); (case V => assumption); (case hv => assumption); (case hW => (first | assumption | omega)); (case kB => k_asm); (case kF => k_asm); (case kX => k_asm); (case kN => k_asm); (case kT => k_asm); (case kA => exact rfl); (case kf => exact rfl); (case kk => exact rfl); (case k1 => ktr_room); (case k2 => ktr_units); (case k3 => exact rfl); k_whole; intro la9 va9 n9 xs9 h9 tk9 F9 N9 ne9 hi9 hp9; (try dsimp only); (try k_fold)))
  repeat (first | ((fail_if_success (with_reducible show wpAny _ _ (call (Value.ref 170) _ _) _ _ _)); (first | (first | ((with_reducible show wpAny _ _ (execs (_ :: _) _) _ _ _); walk1; refine wp_abs ?_; intro _ _; (try dsimp only)) | ((with_reducible refine use_abs (α := Flow) (by with_reducible assumption) ?_); (try (rename ∀ (_ : Flow) (_ : Shared), _ → _ => z9; clear z9)); (try (rename Flow → Shared → Prop => z8; clear z8)); (try dsimp only)) | (k_unfold; (try dsimp only)) | (k_end; kc_close) | walk1 | (dsimp only; walk1) | (leave1; (try dsimp only))))))
  (k_here; (with_reducible show wpAny _ _ (call (Value.ref 170) _ _) _ _ _); k_dflt ((with_unfolding_all refine' callL2 (row_fn _ _ _ _ ?hW _ _ ?hx ?hcap) ?kB ?kF ?kX ?kN ?kT ?kA ?kf ?kk ?k1 ?k2 ?k3 ?_); (case hW => (first | assumption | omega)); (case hx => (first | assumption | omega)); (case hcap => (first | assumption | omega)); (case kB => k_asm); (case kF => k_asm); (case kX => k_asm); (case kN => k_asm); (case kT => k_asm); (case kA => exact rfl); (case kf => exact rfl); (case kk => exact rfl); (case k1 => ktr_room); (case k2 => ktr_units); (case k3 => exact rfl); k_whole; intro la9 va9 n9 xs9 h9 tk9 F9 N9 ne9 hi9 hp9; (try dsimp only); (try k_fold)))
  rename Row _ _ (Int.fmod _ (HPow.hPow _ _)) => RS
  have hSl := RS.len_le (bs_pos _) hS2
  obtain ⟨ee0, ee1, ee2, ee3, ee4, ee5⟩ := law_dm hS0 hS1 hMp
  repeat (first | ((fail_if_success (with_reducible show wpAny _ _ (call (Value.ref 135) _ _) _ _ _)); (first | (first | ((with_reducible show wpAny _ _ (execs (_ :: _) _) _ _ _); walk1; refine wp_abs ?_; intro _ _; (try dsimp only)) | ((with_reducible refine use_abs (α := Flow) (by with_reducible assumption) ?_); (try (rename ∀ (_ : Flow) (_ : Shared), _ → _ => z9; clear z9)); (try (rename Flow → Shared → Prop => z8; clear z8)); (try dsimp only)) | (k_unfold; (try dsimp only)) | (k_end; kc_close) | walk1 | (dsimp only; walk1) | (leave1; (try dsimp only))))))
  (k_here; (with_reducible show wpAny _ _ (call (Value.ref 135) _ _) _ _ _); k_dflt ((with_unfolding_all refine' callT2 (once_fn _ _ _ _ ?hW _ _ _ _ ?hl ?hi ?R _ _ _ _ ?hlm ?him ?S ?hm0 ?hm4 ?hs _ _ _ ?hlv ?hiv ?V ?hv _ ?htt _ rfl) ?kB ?kF ?kX ?kN ?kT ?kA ?kf ?kk ?k1 ?k2 ?k3 ?_); (case htt => (first | exact tup_at (by assumption) (by assumption) | exact tup_new (by assumption) (by k_mem))); (case hl => (first | (with_reducible assumption) | assumption | exact Fr.lst (by assumption) (by assumption) | exact News.isL (by assumption) (by k_mem) | exact News.isLp (by assumption) (by k_mem) | exact News.isL0 (by assumption) (by k_mem) | exact ArgLst.at' (by assumption) (by assumption) (by assumption) (by assumption) (by ((intro p9 hp9; repeat (first | exact hp9 | refine List.Mem.tail _ ?_)))) | exact NewLst.at' (by assumption) (by assumption) (by ((intro p9 hp9; repeat (first | exact hp9 | refine List.Mem.tail _ ?_)))) | exact IsLst.at' (by assumption) (by assumption) (by assumption) (by ((intro p9 hp9; repeat (first | exact hp9 | refine List.Mem.tail _ ?_)))))); (case hi => (first | assumption | exact IntsAre.nil | exact .cons _ _ .nil | exact IntsAre.append (by assumption) (.cons _ _ .nil))); (case R => (assumption)); (case hlm => (first | (with_reducible assumption) | assumption | exact Fr.lst (by assumption) (by assumption) | exact News.isL (by assumption) (by k_mem) | exact News.isLp (by assumption) (by k_mem) | exact News.isL0 (by assumption) (by k_mem) | exact ArgLst.at' (by assumption) (by assumption) (by assumption) (by assumption) (by ((intro p9 hp9; repeat (first | exact hp9 | refine List.Mem.tail _ ?_)))) | exact NewLst.at' (by assumption) (by assumption) (by ((intro p9 hp9; repeat (first | exact hp9 | refine List.Mem.tail _ ?_)))) | exact IsLst.at' (by assumption) (by assumption) (by assumption) (by ((intro p9 hp9; repeat (first | exact hp9 | refine List.Mem.tail _ ?_)))))); (case him => (first | assumption | exact IntsAre.nil | exact .cons _ _ .nil | exact IntsAre.append (by assumption) (.cons _ _ .nil))); (case S => (assumption)); (case hm0 => assumption); (case hm4 => assumption); (case hs => (assumption)); (case hlv => (first | (with_reducible assumption) | assumption | exact Fr.lst (by assumption) (by assumption) | exact News.isL (by assumption) (by k_mem) | exact News.isLp (by assumption) (by k_mem) | exact News.isL0 (by assumption) (by k_mem) | exact ArgLst.at' (by assumption) (by assumption) (by assumption) (by assumption) (by ((intro p9 hp9; repeat (first | exact hp9 | refine List.Mem.tail _ ?_)))) | exact NewLst.at' (by assumption) (by assumption) (by ((intro p9 hp9; repeat (first | exact hp9 | refine List.Mem.tail _ ?_)))) | exact IsLst.at' (by assumption) (by assumption) (by assumption) (by ((intro p9 hp9; repeat (first | exact hp9 | refine List.Mem.tail _ ?_)))))); (case hiv => (first | assumption | exact IntsAre.nil | exact .cons _ _ .nil | exact IntsAre.append (by assumption) (.cons _ _ .nil))); (case V => assumption); (case hv => assumption); (case hW => (first | assumption | omega)); (case kB => k_asm); (case kF => k_asm); (case kX => k_asm); (case kN => k_asm); (case kT => k_asm); (case kA => exact rfl); (case kf => exact rfl); (case kk => exact rfl); (case k1 => ktr_room); (case k2 => ktr_units); (case k3 => exact rfl); k_whole; intro tt9 la9 lb9 va9 n9 vb9 nb9 xs9 ys9 h9 tk9 F9 N9 ne9 ne8 ne7 hi9 hib9 hp9; obtain ⟨⟨hr9, hq9⟩, hs9, ht9⟩ := hp9; (try dsimp only); (try k_fold)))
  repeat (first | ((fail_if_success (with_reducible show wpAny _ _ (call (Value.ref 170) _ _) _ _ _)); (first | (first | ((with_reducible show wpAny _ _ (execs (_ :: _) _) _ _ _); walk1; refine wp_abs ?_; intro _ _; (try dsimp only)) | ((with_reducible refine use_abs (α := Flow) (by with_reducible assumption) ?_); (try (rename ∀ (_ : Flow) (_ : Shared), _ → _ => z9; clear z9)); (try (rename Flow → Shared → Prop => z8; clear z8)); (try dsimp only)) | (k_unfold; (try dsimp only)) | (k_end; kc_close) | walk1 | (dsimp only; walk1) | (leave1; (try dsimp only))))))
  (k_here; (with_reducible show wpAny _ _ (call (Value.ref 170) _ _) _ _ _); k_dflt ((with_unfolding_all refine' callL2 (row_fn _ _ _ _ ?hW _ _ ?hx ?hcap) ?kB ?kF ?kX ?kN ?kT ?kA ?kf ?kk ?k1 ?k2 ?k3 ?_); (case hW => (first | assumption | omega)); (case hx => (first | assumption | omega)); (case hcap => (first | assumption | omega)); (case kB => k_asm); (case kF => k_asm); (case kX => k_asm); (case kN => k_asm); (case kT => k_asm); (case kA => exact rfl); (case kf => exact rfl); (case kk => exact rfl); (case k1 => ktr_room); (case k2 => ktr_units); (case k3 => exact rfl); k_whole; intro la9 va9 n9 xs9 h9 tk9 F9 N9 ne9 hi9 hp9; (try dsimp only); (try k_fold)))
  repeat (first | ((fail_if_success (with_reducible show wpAny _ _ (call (Value.ref 170) _ _) _ _ _)); (first | (first | ((with_reducible show wpAny _ _ (execs (_ :: _) _) _ _ _); walk1; refine wp_abs ?_; intro _ _; (try dsimp only)) | ((with_reducible refine use_abs (α := Flow) (by with_reducible assumption) ?_); (try (rename ∀ (_ : Flow) (_ : Shared), _ → _ => z9; clear z9)); (try (rename Flow → Shared → Prop => z8; clear z8)); (try dsimp only)) | (k_unfold; (try dsimp only)) | (k_end; kc_close) | walk1 | (dsimp only; walk1) | (leave1; (try dsimp only))))))
  (k_here; (with_reducible show wpAny _ _ (call (Value.ref 170) _ _) _ _ _); k_dflt ((with_unfolding_all refine' callL2 (row_fn _ _ _ _ ?hW _ _ ?hx ?hcap) ?kB ?kF ?kX ?kN ?kT ?kA ?kf ?kk ?k1 ?k2 ?k3 ?_); (case hW => (first | assumption | omega)); (case hx => (first | assumption | omega)); (case hcap => (first | assumption | omega)); (case kB => k_asm); (case kF => k_asm); (case kX => k_asm); (case kN => k_asm); (case kT => k_asm); (case kA => exact rfl); (case kf => exact rfl); (case kk => exact rfl); (case k1 => ktr_room); (case k2 => ktr_units); (case k3 => exact rfl); k_whole; intro la9 va9 n9 xs9 h9 tk9 F9 N9 ne9 hi9 hp9; (try dsimp only); (try k_fold)))
  rename Row _ _ (Int.fdiv _ _) => RSD
  rename Row _ _ (Int.fmod _ _) => RSM
  rw [ee2] at RSD
  rw [ee5] at RSM
  repeat (first | ((fail_if_success (with_reducible show wpAny _ _ (exec (Stmt.If (Expr.UnaryOp _ _ _) _ _ _) _) _ _ _)); (first | (first | ((with_reducible show wpAny _ _ (execs (_ :: _) _) _ _ _); walk1; refine wp_abs ?_; intro _ _; (try dsimp only)) | ((with_reducible refine use_abs (α := Flow) (by with_reducible assumption) ?_); (try (rename ∀ (_ : Flow) (_ : Shared), _ → _ => z9; clear z9)); (try (rename Flow → Shared → Prop => z8; clear z8)); (try dsimp only)) | (k_unfold; (try dsimp only)) | (k_end; kc_close) | walk1 | (dsimp only; walk1) | (leave1; (try dsimp only))))))
  rename News _ _ _ (_ :: _) => N1
  have N2 : News _ _ _ [_, _, _, _, _, _, _, _, _] := News.pick [25, 19, 20, 22, 23, 26, 27, 28, 29] N1
  refine News.open6 N2 ?_
  intro bx bef kep aa row lx e1 e2 e3 e4 e5 e6
  subst e1 e2 e3 e4 e5 e6
  have u1 : @Ne Nat bef bx := by k_ne
  have u2 : @Ne Nat kep bx := by k_ne
  have u3 : @Ne Nat aa bx := by k_ne
  have u4 : @Ne Nat row bx := by k_ne
  have u5 : @Ne Nat lx bx := by k_ne
  rename AllNe bx [_, _, _] => A3
  have u8 : @Ne Nat (_ + 1) bx := A3.1
  have u6 : @Ne Nat 219 bx := by k_ne
  have u7 : @Ne Nat 226 bx := by k_ne
  have v1 : @Ne Nat bef 226 := by k_ne
  have v2 : @Ne Nat kep 226 := by k_ne
  have v3 : @Ne Nat aa 226 := by k_ne
  have v4 : @Ne Nat row 226 := by k_ne
  have v5 : @Ne Nat lx 226 := News.neO N2 (by k_mem) (by k_mem) (by intro e; cases e)
  have w1 : @Ne Nat bef 219 := by k_ne
  have w2 : @Ne Nat kep 219 := by k_ne
  have w3 : @Ne Nat aa 219 := by k_ne
  have w4 : @Ne Nat row 219 := by k_ne
  have w5 : @Ne Nat lx 219 := News.neO N2 (by k_mem) (by k_mem) (by intro e; cases e)
  clear N1
  repeat (rename AllNe _ _ => z; clear z)
  repeat (rename _ < _ ∧ _ < _ ∧ _ => z; clear z)
  clear hM0 hM1 hM4 hM300 hne hml4 hxp hlg hMnz hq0 hq300 eq0 dd0 dd1 dd2 dd3 dd4 dd5 hS0 hS1 hS2 hSl ee0 ee1 ee2 ee3 ee4 ee5 RQ RD RR RS RSD RSM
  repeat (first | ((fail_if_success (with_reducible show wpAny _ _ (call (Value.ref 217) _ _) _ _ _)); (first | (first | ((with_reducible show wpAny _ _ (execs (_ :: _) _) _ _ _); walk1; refine wp_abs ?_; intro _ _; (try dsimp only)) | ((with_reducible refine use_abs (α := Flow) (by with_reducible assumption) ?_); (try (rename ∀ (_ : Flow) (_ : Shared), _ → _ => z9; clear z9)); (try (rename Flow → Shared → Prop => z8; clear z8)); (try dsimp only)) | (k_unfold; (try dsimp only)) | (k_end; kc_close) | walk1 | (dsimp only; walk1) | (leave1; (try dsimp only))))))
  (k_here; (with_reducible show wpAny _ _ (call (Value.ref 217) _ _) _ _ _); k_dflt (refine wpAny_call ?_; first | (refine' code0 ?k1 ?k2 ?k3 ?k4 ?k5 ?kA ?kF ?kK ?k6 ?k7 ?k8 ?k9 ?kB ?_ ?c2 ?c3 ?c4 ?c5; (case kA => exact rfl); (case kF => exact rfl); (case kK => exact rfl); (case k2 => k_asm); (case k1 => k_asm); (case k3 => k_asm); (case k4 => k_asm); (case k5 => k_asm); (case k6 => k_is); (case k7 => k_is); (case k8 => k_room); (case k9 => exact BindsTo.of_eq rfl); (case kB => exact locs rfl); (case c2 => exact rfl); (case c3 => exact rfl); (case c4 => exact rfl); (case c5 => decide); k_whole; intro g' L' h' FG' F' N' B' X' T' D'; (try dsimp only); (try k_lift B'); (try k_fold)) | (refine' codeS ?k1 ?k2 ?k3 ?k4 ?k5 ?XB ?TB ?D ?T0 ?kA ?kF ?kK ?k6 ?k7 ?k8 ?k9 ?kB ?_ ?c2 ?c3 ?c4 ?c5; (case kA => exact rfl); (case kF => exact rfl); (case kK => exact rfl); (case k2 => k_asm); (case k1 => k_asm); (case XB => assumption); (case TB => assumption); (case D => assumption); (case T0 => first | assumption | exact KtsTurn.refl); (case k3 => k_asm); (case k4 => k_asm); (case k5 => k_asm); (case k6 => k_is); (case k7 => k_is); (case k8 => k_room); (case k9 => exact BindsTo.of_eq rfl); (case kB => exact locs rfl); (case c2 => exact rfl); (case c3 => exact rfl); (case c4 => exact rfl); (case c5 => decide); k_whole; intro g' L' h' FG' F' N' B' X' T' D'; (try dsimp only); (try k_lift B'); (try k_fold))))
  repeat (first | ((fail_if_success (with_reducible show wpAny _ _ (call (Value.ref 198) _ _) _ _ _)); (first | (first | ((with_reducible show wpAny _ _ (execs (_ :: _) _) _ _ _); walk1; refine wp_abs ?_; intro _ _; (try dsimp only)) | ((with_reducible refine use_abs (α := Flow) (by with_reducible assumption) ?_); (try (rename ∀ (_ : Flow) (_ : Shared), _ → _ => z9; clear z9)); (try (rename Flow → Shared → Prop => z8; clear z8)); (try dsimp only)) | (k_unfold; (try dsimp only)) | (k_end; kc_close) | walk1 | (dsimp only; walk1) | (leave1; (try dsimp only))))))
  rename News _ _ _ (_ :: _) => N1
  have N3 : News _ _ _ [_, _, _, _, _, _, _, _, _] := News.pick [4, 5, 6, 7, 8, 9, 10, 11, 12] N1
  rename Fr _ _ _ _ => F3
  revert N3 F3
  repeat (rename News _ _ _ _ => z; clear z)
  repeat (rename Fr _ _ _ _ => z; clear z)
  repeat (rename KtsDicts _ _ => z; clear z)
  repeat (rename KtsTurn _ _ _ => z; clear z)
  repeat (rename Below _ _ (_ :: _) _ => z; clear z)
  repeat (rename RaisedS _ _ _ _ _ _ _ _ _ => z; clear z)
  repeat (rename RaisedK _ _ _ _ _ _ _ _ => z; clear z)
  intro F3 N3
  repeat (rename _ < _ ∧ _ < _ ∧ _ => z; clear z)
  (k_here; (with_reducible show wpAny _ _ (call (Value.ref 198) _ _) _ _ _); k_dflt ((with_unfolding_all refine' callB (draw_fn _ _ _ _ _ _ _ _ _ _ _ ?hb ?hl ?hi ?hs ?hi0 ?hr _ _ ?hm) ?kB ?kF ?kX ?kN ?kT ?kA ?kf ?kk ?k1 ?k2 ?k3 ?kU ?_); (case hb => exact News.get (by assumption) (by k_mem)); (case hl => (first | (refine hide_list ?hk9 ?hn9; (case hk9 => (first | (with_reducible assumption) | assumption | exact Fr.lst (by assumption) (by assumption) | exact News.isL (by assumption) (by k_mem) | exact News.isLp (by assumption) (by k_mem) | exact News.isL0 (by assumption) (by k_mem) | exact ArgLst.at' (by assumption) (by assumption) (by assumption) (by assumption) (by ((intro p9 hp9; repeat (first | exact hp9 | refine List.Mem.tail _ ?_)))) | exact NewLst.at' (by assumption) (by assumption) (by ((intro p9 hp9; repeat (first | exact hp9 | refine List.Mem.tail _ ?_)))) | exact IsLst.at' (by assumption) (by assumption) (by assumption) (by ((intro p9 hp9; repeat (first | exact hp9 | refine List.Mem.tail _ ?_)))))); (case hn9 => first | assumption | k_ne)))); (case hi => (first | assumption | exact IntsAre.nil | exact .cons _ _ .nil | exact IntsAre.append (by assumption) (.cons _ _ .nil))); (case hs => (first | assumption | omega)); (case hi0 => (first | assumption | omega)); (case hr => assumption); (case hm => (first | assumption | omega)); (case kB => k_asm); (case kF => k_asm); (case kX => k_asm); (case kN => k_asm); (case kT => k_asm); (case kA => exact rfl); (case kf => exact rfl); (case kk => exact rfl); (case k1 => ktr_room); (case k2 => ktr_units); (case k3 => exact rfl); (case kU => (((try simp only [List.append_eq, List.cons_append, List.nil_append]); repeat (first | exact UpdF.head (by k_all) | refine UpdF.tail (by k_ne) ?_)))); k_whole; intro i9 t9 bo9 h9 tk9 F9 N9 hp9; (try simp only [List.append_eq, List.cons_append, List.nil_append] at N9); obtain ⟨hd9, tb9, rb9, ub9, nb9, eb9, hr9⟩ := hp9; subst eb9; (skip); (try dsimp only); (try k_fold)))
  repeat (first | ((fail_if_success (with_reducible show wpAny _ _ (call (Value.ref 224) _ _) _ _ _)); (first | (first | ((with_reducible show wpAny _ _ (execs (_ :: _) _) _ _ _); walk1; refine wp_abs ?_; intro _ _; (try dsimp only)) | ((with_reducible refine use_abs (α := Flow) (by with_reducible assumption) ?_); (try (rename ∀ (_ : Flow) (_ : Shared), _ → _ => z9; clear z9)); (try (rename Flow → Shared → Prop => z8; clear z8)); (try dsimp only)) | (k_unfold; (try dsimp only)) | (k_end; kc_close) | walk1 | (dsimp only; walk1) | (leave1; (try dsimp only))))))
  rename News _ _ _ (_ :: _) => N1
  rename Fr _ _ _ _ => F3
  have N3 : News _ _ _ [_, _, _, _, _, _, _] := News.pick [1, 2, 3, 4, 6, 7, 8] N1
  revert N3 F3
  repeat (rename News _ _ _ _ => z; clear z)
  repeat (rename Fr _ _ _ _ => z; clear z)
  intro F3 N3
  (k_here; (with_reducible show wpAny _ _ (call (Value.ref 224) _ _) _ _ _); k_dflt (refine wpAny_call ?_; (refine' code0C ?k1 ?k2 ?k3 ?k4 ?k5 ?kA ?kF ?kK ?k6 ?k7 ?k8 ?k9 ?kB ?kD ?_ ?c2 ?c3 ?c4; (case kA => exact rfl); (case kF => exact rfl); (case kK => exact rfl); (case k2 => k_asm); (case k1 => k_asm); (case k3 => k_asm); (case k4 => k_asm); (case k5 => k_asm); (case k6 => k_is); (case k7 => k_is); (case k8 => k_room); (case k9 => exact BindsTo.of_eq rfl); (case kB => exact rfl); (case kD => decide +kernel); (case c2 => exact rfl); (case c3 => exact rfl); (case c4 => exact rfl); k_whole; intro g' L' h' tk' cells' FG' F' N' Y' B' X' T' D' l1; (try k_lt l1); k_cells Y'; (try simp only [List.cons_append, List.nil_append] at N'); (try dsimp only); (try k_lift B'); (try k_fold))))
  repeat (first | ((fail_if_success (with_reducible show ite _ _ _)); (first | (first | ((with_reducible show wpAny _ _ (execs (_ :: _) _) _ _ _); walk1; refine wp_abs ?_; intro _ _; (try dsimp only)) | ((with_reducible refine use_abs (α := Flow) (by with_reducible assumption) ?_); (try (rename ∀ (_ : Flow) (_ : Shared), _ → _ => z9; clear z9)); (try (rename Flow → Shared → Prop => z8; clear z8)); (try dsimp only)) | (k_unfold; (try dsimp only)) | (k_end; kc_close) | walk1 | (dsimp only; walk1) | (leave1; (try dsimp only))))))
  (first | (first | ((with_reducible show wpAny _ _ (execs (_ :: _) _) _ _ _); walk1; refine wp_abs ?_; intro _ _; (try dsimp only)) | ((with_reducible refine use_abs (α := Flow) (by with_reducible assumption) ?_); (try (rename ∀ (_ : Flow) (_ : Shared), _ → _ => z9; clear z9)); (try (rename Flow → Shared → Prop => z8; clear z8)); (try dsimp only)) | (k_unfold; (try dsimp only)) | (k_end; kc_close) | walk1 | (dsimp only; walk1) | (leave1; (try dsimp only))))
  · rename News _ _ _ (_ :: _) => N1
    have N3 : News _ _ _ [_, _, _, _, _, _, _, _, _] := News.pick [0, 1, 2, 3, 4, 5, 6, 7, 8] N1
    rename Fr _ _ _ _ => F3
    revert N3 F3
    repeat (rename News _ _ _ _ => z; clear z)
    intro F3 N3
    repeat (first | ((fail_if_success (with_reducible show wpAny _ _ (call (Value.ref 217) _ _) _ _ _)); (first | (first | ((with_reducible show wpAny _ _ (execs (_ :: _) _) _ _ _); walk1; refine wp_abs ?_; intro _ _; (try dsimp only)) | ((with_reducible refine use_abs (α := Flow) (by with_reducible assumption) ?_); (try (rename ∀ (_ : Flow) (_ : Shared), _ → _ => z9; clear z9)); (try (rename Flow → Shared → Prop => z8; clear z8)); (try dsimp only)) | (k_unfold; (try dsimp only)) | (k_end; kc_close) | walk1 | (dsimp only; walk1) | (leave1; (try dsimp only))))))
    (k_here; (with_reducible show wpAny _ _ (call (Value.ref 217) _ _) _ _ _); k_dflt (refine wpAny_call ?_; first | (refine' code0 ?k1 ?k2 ?k3 ?k4 ?k5 ?kA ?kF ?kK ?k6 ?k7 ?k8 ?k9 ?kB ?_ ?c2 ?c3 ?c4 ?c5; (case kA => exact rfl); (case kF => exact rfl); (case kK => exact rfl); (case k2 => k_asm); (case k1 => k_asm); (case k3 => k_asm); (case k4 => k_asm); (case k5 => k_asm); (case k6 => k_is); (case k7 => k_is); (case k8 => k_room); (case k9 => exact BindsTo.of_eq rfl); (case kB => exact locs rfl); (case c2 => exact rfl); (case c3 => exact rfl); (case c4 => exact rfl); (case c5 => decide); k_whole; intro g' L' h' FG' F' N' B' X' T' D'; (try dsimp only); (try k_lift B'); (try k_fold)) | (refine' codeS ?k1 ?k2 ?k3 ?k4 ?k5 ?XB ?TB ?D ?T0 ?kA ?kF ?kK ?k6 ?k7 ?k8 ?k9 ?kB ?_ ?c2 ?c3 ?c4 ?c5; (case kA => exact rfl); (case kF => exact rfl); (case kK => exact rfl); (case k2 => k_asm); (case k1 => k_asm); (case XB => assumption); (case TB => assumption); (case D => assumption); (case T0 => first | assumption | exact KtsTurn.refl); (case k3 => k_asm); (case k4 => k_asm); (case k5 => k_asm); (case k6 => k_is); (case k7 => k_is); (case k8 => k_room); (case k9 => exact BindsTo.of_eq rfl); (case kB => exact locs rfl); (case c2 => exact rfl); (case c3 => exact rfl); (case c4 => exact rfl); (case c5 => decide); k_whole; intro g' L' h' FG' F' N' B' X' T' D'; (try dsimp only); (try k_lift B'); (try k_fold))))
    repeat (first | ((fail_if_success (with_reducible show wpAny _ _ (call (Value.ref 217) _ _) _ _ _)); (first | (first | ((with_reducible show wpAny _ _ (execs (_ :: _) _) _ _ _); walk1; refine wp_abs ?_; intro _ _; (try dsimp only)) | ((with_reducible refine use_abs (α := Flow) (by with_reducible assumption) ?_); (try (rename ∀ (_ : Flow) (_ : Shared), _ → _ => z9; clear z9)); (try (rename Flow → Shared → Prop => z8; clear z8)); (try dsimp only)) | (k_unfold; (try dsimp only)) | (k_end; kc_close) | walk1 | (dsimp only; walk1) | (leave1; (try dsimp only))))))
    rename News _ _ _ (_ :: _) => N1
    have N3 : News _ _ _ [_, _, _, _, _, _, _, _, _, _] := News.pick [0, 1, 4, 5, 6, 7, 8, 9, 11, 12] N1
    rename Fr _ _ _ _ => F3
    rename KtsDicts _ _ => D3
    rename KtsTurn _ _ _ => T3
    revert N3 F3 D3 T3
    repeat (rename News _ _ _ _ => z; clear z)
    repeat (rename Fr _ _ _ _ => z; clear z)
    repeat (rename KtsDicts _ _ => z; clear z)
    repeat (rename KtsTurn _ _ _ => z; clear z)
    repeat (rename RaisedS _ _ _ _ _ _ _ _ _ => z; clear z)
    repeat (rename RaisedK _ _ _ _ _ _ _ _ => z; clear z)
    repeat (rename _ < _ ∧ _ < _ ∧ _ => z; clear z)
    intro a1 a2 a3 a4
    (k_here; (with_reducible show wpAny _ _ (call (Value.ref 217) _ _) _ _ _); k_dflt (refine wpAny_call ?_; first | (refine' code0 ?k1 ?k2 ?k3 ?k4 ?k5 ?kA ?kF ?kK ?k6 ?k7 ?k8 ?k9 ?kB ?_ ?c2 ?c3 ?c4 ?c5; (case kA => exact rfl); (case kF => exact rfl); (case kK => exact rfl); (case k2 => k_asm); (case k1 => k_asm); (case k3 => k_asm); (case k4 => k_asm); (case k5 => k_asm); (case k6 => k_is); (case k7 => k_is); (case k8 => k_room); (case k9 => exact BindsTo.of_eq rfl); (case kB => exact locs rfl); (case c2 => exact rfl); (case c3 => exact rfl); (case c4 => exact rfl); (case c5 => decide); k_whole; intro g' L' h' FG' F' N' B' X' T' D'; (try dsimp only); (try k_lift B'); (try k_fold)) | (refine' codeS ?k1 ?k2 ?k3 ?k4 ?k5 ?XB ?TB ?D ?T0 ?kA ?kF ?kK ?k6 ?k7 ?k8 ?k9 ?kB ?_ ?c2 ?c3 ?c4 ?c5; (case kA => exact rfl); (case kF => exact rfl); (case kK => exact rfl); (case k2 => k_asm); (case k1 => k_asm); (case XB => assumption); (case TB => assumption); (case D => assumption); (case T0 => first | assumption | exact KtsTurn.refl); (case k3 => k_asm); (case k4 => k_asm); (case k5 => k_asm); (case k6 => k_is); (case k7 => k_is); (case k8 => k_room); (case k9 => exact BindsTo.of_eq rfl); (case kB => exact locs rfl); (case c2 => exact rfl); (case c3 => exact rfl); (case c4 => exact rfl); (case c5 => decide); k_whole; intro g' L' h' FG' F' N' B' X' T' D'; (try dsimp only); (try k_lift B'); (try k_fold))))
    repeat (first | ((fail_if_success (with_reducible show wpAny _ _ (compareOp _ _ _) _ _ _)); (first | (first | ((with_reducible show wpAny _ _ (execs (_ :: _) _) _ _ _); walk1; refine wp_abs ?_; intro _ _; (try dsimp only)) | ((with_reducible refine use_abs (α := Flow) (by with_reducible assumption) ?_); (try (rename ∀ (_ : Flow) (_ : Shared), _ → _ => z9; clear z9)); (try (rename Flow → Shared → Prop => z8; clear z8)); (try dsimp only)) | (k_unfold; (try dsimp only)) | (k_end; kc_close) | walk1 | (dsimp only; walk1) | (leave1; (try dsimp only))))))
    (first | (first | ((with_reducible show wpAny _ _ (execs (_ :: _) _) _ _ _); walk1; refine wp_abs ?_; intro _ _; (try dsimp only)) | ((with_reducible refine use_abs (α := Flow) (by with_reducible assumption) ?_); (try (rename ∀ (_ : Flow) (_ : Shared), _ → _ => z9; clear z9)); (try (rename Flow → Shared → Prop => z8; clear z8)); (try dsimp only)) | (k_unfold; (try dsimp only)) | (k_end; kc_close) | walk1 | (dsimp only; walk1) | (leave1; (try dsimp only))))
    repeat (first | ((fail_if_success (with_reducible show wpAny _ _ (compareOp _ _ _) _ _ _)); (first | (first | ((with_reducible show wpAny _ _ (execs (_ :: _) _) _ _ _); walk1; refine wp_abs ?_; intro _ _; (try dsimp only)) | ((with_reducible refine use_abs (α := Flow) (by with_reducible assumption) ?_); (try (rename ∀ (_ : Flow) (_ : Shared), _ → _ => z9; clear z9)); (try (rename Flow → Shared → Prop => z8; clear z8)); (try dsimp only)) | (k_unfold; (try dsimp only)) | (k_end; kc_close) | walk1 | (dsimp only; walk1) | (leave1; (try dsimp only))))))
    rename News _ _ _ (_ :: _) => N1
    have N3 : News _ _ _ [_, _, _, _, _, _] := News.pick [4, 5, 6, 7, 8, 9] N1
    rename Fr _ _ _ _ => F3
    revert N3 F3
    repeat (rename News _ _ _ _ => z; clear z)
    repeat (rename Fr _ _ _ _ => z; clear z)
    repeat (rename KtsDicts _ _ => z; clear z)
    repeat (rename KtsTurn _ _ _ => z; clear z)
    repeat (rename RaisedS _ _ _ _ _ _ _ _ _ => z; clear z)
    repeat (rename RaisedK _ _ _ _ _ _ _ _ => z; clear z)
    repeat (rename _ < _ ∧ _ < _ ∧ _ => z; clear z)
    repeat (rename Below _ _ (_ :: _) _ => z; clear z)
    intro a1 a2
    (first | (first | ((with_reducible show wpAny _ _ (execs (_ :: _) _) _ _ _); walk1; refine wp_abs ?_; intro _ _; (try dsimp only)) | ((with_reducible refine use_abs (α := Flow) (by with_reducible assumption) ?_); (try (rename ∀ (_ : Flow) (_ : Shared), _ → _ => z9; clear z9)); (try (rename Flow → Shared → Prop => z8; clear z8)); (try dsimp only)) | (k_unfold; (try dsimp only)) | (k_end; kc_close) | walk1 | (dsimp only; walk1) | (leave1; (try dsimp only))))
    repeat (first | ((fail_if_success (with_reducible show wpAny _ _ (compareOp _ _ _) _ _ _)); (first | (first | ((with_reducible show wpAny _ _ (execs (_ :: _) _) _ _ _); walk1; refine wp_abs ?_; intro _ _; (try dsimp only)) | ((with_reducible refine use_abs (α := Flow) (by with_reducible assumption) ?_); (try (rename ∀ (_ : Flow) (_ : Shared), _ → _ => z9; clear z9)); (try (rename Flow → Shared → Prop => z8; clear z8)); (try dsimp only)) | (k_unfold; (try dsimp only)) | (k_end; kc_close) | walk1 | (dsimp only; walk1) | (leave1; (try dsimp only))))))
    repeat (first | (first | ((with_reducible show wpAny _ _ (execs (_ :: _) _) _ _ _); walk1; refine wp_abs ?_; intro _ _; (try dsimp only)) | ((with_reducible refine use_abs (α := Flow) (by with_reducible assumption) ?_); (try (rename ∀ (_ : Flow) (_ : Shared), _ → _ => z9; clear z9)); (try (rename Flow → Shared → Prop => z8; clear z8)); (try dsimp only)) | (k_unfold; (try dsimp only)) | (k_end; kc_close) | walk1 | (dsimp only; walk1) | (leave1; (try dsimp only))))
    all_goals (refine hQQ _ _ ?_; exact ⟨good_true (by assumption) (by assumption) rfl, by walk_at "GrownAll"⟩)
  · rename News _ _ _ (_ :: _) => N1
    rename Fr _ _ _ _ => F3
    have N3 : News _ _ _ [_, _, _, _, _, _, _, _] := News.pick [0, 1, 2, 3, 4, 5, 7, 8] N1
    revert N3 F3
    repeat (rename News _ _ _ _ => z; clear z)
    repeat (rename Fr _ _ _ _ => z; clear z)
    repeat (rename _ < _ ∧ _ < _ ∧ _ => z; clear z)
    intro F3 N3
    rename 0 ≤ _ ∧ _ < 24 => hn24
    rename _ ≠ 0 => hn0
    obtain ⟨bf0, bf1, bf2, bf3, bf4, bf5, bf6, bf7, bf8, bf9, bf10⟩ := bits_facts hX0 hX300 hn24 hn0
    repeat (first | ((fail_if_success (with_reducible show wpAny _ _ (call (Value.ref 156) _ _) _ _ _)); (first | (first | ((with_reducible show wpAny _ _ (execs (_ :: _) _) _ _ _); walk1; refine wp_abs ?_; intro _ _; (try dsimp only)) | ((with_reducible refine use_abs (α := Flow) (by with_reducible assumption) ?_); (try (rename ∀ (_ : Flow) (_ : Shared), _ → _ => z9; clear z9)); (try (rename Flow → Shared → Prop => z8; clear z8)); (try dsimp only)) | (k_unfold; (try dsimp only)) | (k_end; kc_close) | walk1 | (dsimp only; walk1) | (leave1; (try dsimp only))))))
    (k_here; (with_reducible show wpAny _ _ (call (Value.ref 156) _ _) _ _ _); k_dflt ((with_unfolding_all refine' callR2 ?hna (ones_fn _ _ _ _ ?hW _ _ _ _ ?hl ?hi ?hs ?R _ _ ?hn) ?kB ?kF ?kX ?kN ?kT ?kA ?kf ?kk ?k1 ?k2 ?k3 ?q1 ?q2); (case hl => (first | (with_reducible assumption) | assumption | exact Fr.lst (by assumption) (by assumption) | exact News.isL (by assumption) (by k_mem) | exact News.isLp (by assumption) (by k_mem) | exact News.isL0 (by assumption) (by k_mem) | exact ArgLst.at' (by assumption) (by assumption) (by assumption) (by assumption) (by ((intro p9 hp9; repeat (first | exact hp9 | refine List.Mem.tail _ ?_)))) | exact NewLst.at' (by assumption) (by assumption) (by ((intro p9 hp9; repeat (first | exact hp9 | refine List.Mem.tail _ ?_)))) | exact IsLst.at' (by assumption) (by assumption) (by assumption) (by ((intro p9 hp9; repeat (first | exact hp9 | refine List.Mem.tail _ ?_)))))); (case hi => (first | assumption | exact IntsAre.nil | exact .cons _ _ .nil | exact IntsAre.append (by assumption) (.cons _ _ .nil))); (case hna => (first | assumption | exact IntsAre.nil | exact .cons _ _ .nil | exact IntsAre.append (by assumption) (.cons _ _ .nil))); (case hs => (first | assumption | omega | (have e := ‹_ = (rangeKs _ _).length›; rw [rangeKs_length] at e; omega) | (simp only [List.length_append, List.length_cons, List.length_nil, List.length_replicate, List.length_take, List.length_drop]; omega))); (case R => (assumption)); (case hW => (first | assumption | omega)); (case hn => (first | assumption | omega)); (case kB => k_asm); (case kF => k_asm); (case kX => k_asm); (case kN => k_asm); (case kT => k_asm); (case kA => exact rfl); (case kf => exact rfl); (case kk => exact rfl); (case k1 => ktr_room); (case k2 => ktr_units); (case k3 => exact rfl)); (case' q1 => (intro la9 va9 n9 xs9 h9 tk9 F9 N9 ne9 hi9 hp9; (try dsimp only))); (case' q2 => (intro h9 tk9 F9 N9 hp9; (try dsimp only))))
    all_goals (repeat' (first | ((fail_if_success (with_reducible show wpAny _ _ (call (Value.ref 170) _ _) _ _ _)); (first | (first | ((with_reducible show wpAny _ _ (execs (_ :: _) _) _ _ _); walk1; refine wp_abs ?_; intro _ _; (try dsimp only)) | ((with_reducible refine use_abs (α := Flow) (by with_reducible assumption) ?_); (try (rename ∀ (_ : Flow) (_ : Shared), _ → _ => z9; clear z9)); (try (rename Flow → Shared → Prop => z8; clear z8)); (try dsimp only)) | (k_unfold; (try dsimp only)) | (k_end; kc_close) | walk1 | (dsimp only; walk1) | (leave1; (try dsimp only)))))))
    all_goals (rename Row _ _ (_ % (2 ^ _ - 1)) => hp)
    all_goals (first | (rw [bits_one bf0 (by omega)] at hp) | (rw [← bf9] at hp))
    all_goals (k_here; (with_reducible show wpAny _ _ (call (Value.ref 170) _ _) _ _ _); k_dflt ((with_unfolding_all refine' callL2 (row_fn _ _ _ _ ?hW _ _ ?hx ?hcap) ?kB ?kF ?kX ?kN ?kT ?kA ?kf ?kk ?k1 ?k2 ?k3 ?_); (case hW => (first | assumption | omega)); (case hx => (first | assumption | omega)); (case hcap => (first | assumption | omega)); (case kB => k_asm); (case kF => k_asm); (case kX => k_asm); (case kN => k_asm); (case kT => k_asm); (case kA => exact rfl); (case kf => exact rfl); (case kk => exact rfl); (case k1 => ktr_room); (case k2 => ktr_units); (case k3 => exact rfl); k_whole; intro la9 va9 n9 xs9 h9 tk9 F9 N9 ne9 hi9 hp9; (try dsimp only); (try k_fold)))
    all_goals (repeat' (first | ((fail_if_success (with_reducible show wpAny _ _ (call (Value.ref 163) _ _) _ _ _)); (first | (first | ((with_reducible show wpAny _ _ (execs (_ :: _) _) _ _ _); walk1; refine wp_abs ?_; intro _ _; (try dsimp only)) | ((with_reducible refine use_abs (α := Flow) (by with_reducible assumption) ?_); (try (rename ∀ (_ : Flow) (_ : Shared), _ → _ => z9; clear z9)); (try (rename Flow → Shared → Prop => z8; clear z8)); (try dsimp only)) | (k_unfold; (try dsimp only)) | (k_end; kc_close) | walk1 | (dsimp only; walk1) | (leave1; (try dsimp only)))))))
    all_goals (clear hp)
    all_goals (k_here; (with_reducible show wpAny _ _ (call (Value.ref 163) _ _) _ _ _); k_dflt ((with_unfolding_all refine' callL2 (more_fn _ _ _ _ ?hW _ _ _ _ ?hl ?hi ?hs ?R _ _ ?hn) ?kB ?kF ?kX ?kN ?kT ?kA ?kf ?kk ?k1 ?k2 ?k3 ?_); (case hl => (first | (with_reducible assumption) | assumption | exact Fr.lst (by assumption) (by assumption) | exact News.isL (by assumption) (by k_mem) | exact News.isLp (by assumption) (by k_mem) | exact News.isL0 (by assumption) (by k_mem) | exact ArgLst.at' (by assumption) (by assumption) (by assumption) (by assumption) (by ((intro p9 hp9; repeat (first | exact hp9 | refine List.Mem.tail _ ?_)))) | exact NewLst.at' (by assumption) (by assumption) (by ((intro p9 hp9; repeat (first | exact hp9 | refine List.Mem.tail _ ?_)))) | exact IsLst.at' (by assumption) (by assumption) (by assumption) (by ((intro p9 hp9; repeat (first | exact hp9 | refine List.Mem.tail _ ?_)))))); (case hi => (first | assumption | exact IntsAre.nil | exact .cons _ _ .nil | exact IntsAre.append (by assumption) (.cons _ _ .nil))); (case hs => (first | assumption | omega | (have e := ‹_ = (rangeKs _ _).length›; rw [rangeKs_length] at e; omega) | (simp only [List.length_append, List.length_cons, List.length_nil, List.length_replicate, List.length_take, List.length_drop]; omega))); (case R => (assumption)); (case hW => (first | assumption | omega)); (case hn => (first | assumption | omega)); (case kB => k_asm); (case kF => k_asm); (case kX => k_asm); (case kN => k_asm); (case kT => k_asm); (case kA => exact rfl); (case kf => exact rfl); (case kk => exact rfl); (case k1 => ktr_room); (case k2 => ktr_units); (case k3 => exact rfl); k_whole; intro la9 va9 n9 xs9 h9 tk9 F9 N9 ne9 hi9 hp9; (try dsimp only); (try k_fold)))
    all_goals (repeat' (first | ((fail_if_success (with_reducible show wpAny _ _ (call (Value.ref 170) _ _) _ _ _)); (first | (first | ((with_reducible show wpAny _ _ (execs (_ :: _) _) _ _ _); walk1; refine wp_abs ?_; intro _ _; (try dsimp only)) | ((with_reducible refine use_abs (α := Flow) (by with_reducible assumption) ?_); (try (rename ∀ (_ : Flow) (_ : Shared), _ → _ => z9; clear z9)); (try (rename Flow → Shared → Prop => z8; clear z8)); (try dsimp only)) | (k_unfold; (try dsimp only)) | (k_end; kc_close) | walk1 | (dsimp only; walk1) | (leave1; (try dsimp only)))))))
    all_goals (rename Row _ _ (_ % (2 ^ _ + 1)) => hq)
    all_goals (rw [← bf6] at hq)
    all_goals (k_here; (with_reducible show wpAny _ _ (call (Value.ref 170) _ _) _ _ _); k_dflt ((with_unfolding_all refine' callL2 (row_fn _ _ _ _ ?hW _ _ ?hx ?hcap) ?kB ?kF ?kX ?kN ?kT ?kA ?kf ?kk ?k1 ?k2 ?k3 ?_); (case hW => (first | assumption | omega)); (case hx => (first | assumption | omega)); (case hcap => (first | assumption | omega)); (case kB => k_asm); (case kF => k_asm); (case kX => k_asm); (case kN => k_asm); (case kT => k_asm); (case kA => exact rfl); (case kf => exact rfl); (case kk => exact rfl); (case k1 => ktr_room); (case k2 => ktr_units); (case k3 => exact rfl); k_whole; intro la9 va9 n9 xs9 h9 tk9 F9 N9 ne9 hi9 hp9; (try dsimp only); (try k_fold)))
    all_goals ((first | (first | ((with_reducible show wpAny _ _ (execs (_ :: _) _) _ _ _); walk1; refine wp_abs ?_; intro _ _; (try dsimp only)) | ((with_reducible refine use_abs (α := Flow) (by with_reducible assumption) ?_); (try (rename ∀ (_ : Flow) (_ : Shared), _ → _ => z9; clear z9)); (try (rename Flow → Shared → Prop => z8; clear z8)); (try dsimp only)) | (k_unfold; (try dsimp only)) | (k_end; kc_close) | walk1 | (dsimp only; walk1) | (leave1; (try dsimp only)))))
    all_goals ((first | (first | ((with_reducible show wpAny _ _ (execs (_ :: _) _) _ _ _); walk1; refine wp_abs ?_; intro _ _; (try dsimp only)) | ((with_reducible refine use_abs (α := Flow) (by with_reducible assumption) ?_); (try (rename ∀ (_ : Flow) (_ : Shared), _ → _ => z9; clear z9)); (try (rename Flow → Shared → Prop => z8; clear z8)); (try dsimp only)) | (k_unfold; (try dsimp only)) | (k_end; kc_close) | walk1 | (dsimp only; walk1) | (leave1; (try dsimp only)))))
    all_goals ((first | (first | ((with_reducible show wpAny _ _ (execs (_ :: _) _) _ _ _); walk1; refine wp_abs ?_; intro _ _; (try dsimp only)) | ((with_reducible refine use_abs (α := Flow) (by with_reducible assumption) ?_); (try (rename ∀ (_ : Flow) (_ : Shared), _ → _ => z9; clear z9)); (try (rename Flow → Shared → Prop => z8; clear z8)); (try dsimp only)) | (k_unfold; (try dsimp only)) | (k_end; kc_close) | walk1 | (dsimp only; walk1) | (leave1; (try dsimp only)))))
    all_goals (repeat' (first | ((fail_if_success (with_reducible show wpAny _ _ (compareOp _ _ _) _ _ _)); (first | (first | ((with_reducible show wpAny _ _ (execs (_ :: _) _) _ _ _); walk1; refine wp_abs ?_; intro _ _; (try dsimp only)) | ((with_reducible refine use_abs (α := Flow) (by with_reducible assumption) ?_); (try (rename ∀ (_ : Flow) (_ : Shared), _ → _ => z9; clear z9)); (try (rename Flow → Shared → Prop => z8; clear z8)); (try dsimp only)) | (k_unfold; (try dsimp only)) | (k_end; kc_close) | walk1 | (dsimp only; walk1) | (leave1; (try dsimp only)))))))
    all_goals ((first | (first | ((with_reducible show wpAny _ _ (execs (_ :: _) _) _ _ _); walk1; refine wp_abs ?_; intro _ _; (try dsimp only)) | ((with_reducible refine use_abs (α := Flow) (by with_reducible assumption) ?_); (try (rename ∀ (_ : Flow) (_ : Shared), _ → _ => z9; clear z9)); (try (rename Flow → Shared → Prop => z8; clear z8)); (try dsimp only)) | (k_unfold; (try dsimp only)) | (k_end; kc_close) | walk1 | (dsimp only; walk1) | (leave1; (try dsimp only)))))
    all_goals (repeat' (first | ((fail_if_success (with_reducible show wpAny _ _ (compareOp _ _ _) _ _ _)); (first | (first | ((with_reducible show wpAny _ _ (execs (_ :: _) _) _ _ _); walk1; refine wp_abs ?_; intro _ _; (try dsimp only)) | ((with_reducible refine use_abs (α := Flow) (by with_reducible assumption) ?_); (try (rename ∀ (_ : Flow) (_ : Shared), _ → _ => z9; clear z9)); (try (rename Flow → Shared → Prop => z8; clear z8)); (try dsimp only)) | (k_unfold; (try dsimp only)) | (k_end; kc_close) | walk1 | (dsimp only; walk1) | (leave1; (try dsimp only)))))))
    all_goals (repeat (first | (first | ((with_reducible show wpAny _ _ (execs (_ :: _) _) _ _ _); walk1; refine wp_abs ?_; intro _ _; (try dsimp only)) | ((with_reducible refine use_abs (α := Flow) (by with_reducible assumption) ?_); (try (rename ∀ (_ : Flow) (_ : Shared), _ → _ => z9; clear z9)); (try (rename Flow → Shared → Prop => z8; clear z8)); (try dsimp only)) | (k_unfold; (try dsimp only)) | (k_end; kc_close) | walk1 | (dsimp only; walk1) | (leave1; (try dsimp only)))))
    all_goals (refine hQQ _ _ ?_; exact ⟨good_true (by assumption) (by assumption) rfl, by walk_at "GrownAll"⟩)

end GLaw
end Mine
theorem PySem.Challenge.cw_nn0009_01_holds : PySem.Challenge.rw_nn0009_01.Holds := by
  exact Mine.law_holds
