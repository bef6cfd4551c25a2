import PyProof.Rows.All
import Wide.All
import OpenK.AllK
import Wide.FinOn
import HandS.ForMost
import HandS.Conv
import HandS.Gcd
import HandS.Wide
import HandS.Style
import HandS.IsInst
import HandS.Defaults
import KE.GoesEnum
import PyProof.ReprRoads
import PySem.Challenge.RW_samegaps_k77_whole_turned_multiplied_rol
/-! Plain mathematics: sums over lists, rolled rows, lots. Core Lean only. -/
set_option Elab.async false
set_option linter.all false
namespace Sg

/-! ### sums -/
def sm {α : Type} (l : List α) (g : α → Int) : Int := (l.map g).sum
section
variable {α β : Type}
theorem sm_nil (g : α → Int) : sm [] g = 0 := rfl
theorem sm_cons (a : α) (l : List α) (g : α → Int) : sm (a :: l) g = g a + sm l g := by
  unfold sm; rw [List.map_cons, List.sum_cons]
theorem sm_append (l m : List α) (g : α → Int) : sm (l ++ m) g = sm l g + sm m g := by
  induction l with
  | nil => rw [List.nil_append, sm_nil]; omega
  | cons a l ih => rw [List.cons_append, sm_cons, sm_cons, ih]; omega
theorem sm_congr {l : List α} {g h : α → Int} (e : ∀ x ∈ l, g x = h x) : sm l g = sm l h := by
  induction l with
  | nil => rfl
  | cons a l ih =>
    rw [sm_cons, sm_cons, e a (List.mem_cons_self ..), ih fun x hx => e x (List.mem_cons_of_mem _ hx)]
theorem sm_perm {l m : List α} (p : l.Perm m) (g : α → Int) : sm l g = sm m g := by
  induction p with
  | nil => rfl
  | cons a _ ih => rw [sm_cons, sm_cons, ih]
  | swap a b l => rw [sm_cons, sm_cons, sm_cons, sm_cons]; omega
  | trans _ _ h1 h2 => rw [h1, h2]
theorem sm_map (f : β → α) (l : List β) (g : α → Int) : sm (l.map f) g = sm l fun x => g (f x) := by
  induction l with
  | nil => rfl
  | cons a l ih => rw [List.map_cons, sm_cons, sm_cons, ih]
theorem sm_zero (l : List α) : sm l (fun _ => 0) = 0 := by
  induction l with
  | nil => rfl
  | cons a l ih => rw [sm_cons, ih]; rfl
theorem sm_add (l : List α) (g h : α → Int) : sm l (fun x => g x + h x) = sm l g + sm l h := by
  induction l with
  | nil => rfl
  | cons a l ih => rw [sm_cons, sm_cons, sm_cons, ih]; omega
theorem sm_mul (l : List α) (c : Int) (g : α → Int) : sm l (fun x => c * g x) = c * sm l g := by
  induction l with
  | nil => rw [sm_nil, sm_nil, Int.mul_zero]
  | cons a l ih => rw [sm_cons, sm_cons, ih, Int.mul_add]
theorem sm_mulr (l : List α) (c : Int) (g : α → Int) : sm l (fun x => g x * c) = sm l g * c := by
  rw [Int.mul_comm, ← sm_mul]
  exact sm_congr fun x _ => Int.mul_comm _ _
theorem sm_comm (l : List α) (m : List β) (g : α → β → Int) : sm l (fun x => sm m fun y => g x y) = sm m fun y => sm l fun x => g x y := by
  induction l with
  | nil => rw [sm_nil]; simp only [sm_nil]; rw [sm_zero]
  | cons a l ih =>
    rw [sm_cons, ih, ← sm_add]
    exact sm_congr fun y _ => (sm_cons a l fun x => g x y).symm
theorem sm_flatMap (l : List β) (f : β → List α) (g : α → Int) : sm (l.flatMap f) g = sm l fun x => sm (f x) g := by
  induction l with
  | nil => rfl
  | cons a l ih => rw [List.flatMap_cons, sm_append, sm_cons, ih]
theorem sm_filter (l : List α) (q : α → Bool) (g : α → Int) (h : ∀ x ∈ l, q x = false → g x = 0) : sm (l.filter q) g = sm l g := by
  induction l with
  | nil => rfl
  | cons a l ih =>
    have ih' := ih fun x hx => h x (List.mem_cons_of_mem _ hx)
    cases e : q a with
    | true => rw [List.filter_cons_of_pos e, sm_cons, sm_cons, ih']
    | false => rw [List.filter_cons_of_neg (by simp [e]), sm_cons, ih', h a (List.mem_cons_self ..) e]; omega
theorem sm_bound (l : List α) (g : α → Int) (B : Nat) (h : ∀ x ∈ l, (g x).natAbs ≤ B) : (sm l g).natAbs ≤ l.length * B := by
  induction l with
  | nil => rw [sm_nil]; simp
  | cons a l ih =>
    have h1 := h a (List.mem_cons_self ..)
    have h2 := ih fun x hx => h x (List.mem_cons_of_mem _ hx)
    rw [sm_cons, List.length_cons, Nat.succ_mul]
    omega
end

/-! ### sorting -/
def ins (x : Int) : List Int → List Int
  | [] => [x]
  | y :: r => if x ≤ y then x :: y :: r else y :: ins x r
def srt : List Int → List Int
  | [] => []
  | x :: r => ins x (srt r)
theorem ins_perm (x : Int) : ∀ l : List Int, (ins x l).Perm (x :: l)
  | [] => .refl _
  | y :: r => by
    unfold ins
    split
    · exact .refl _
    · exact ((ins_perm x r).cons y).trans (.swap x y r)
theorem srt_perm : ∀ l : List Int, (srt l).Perm l
  | [] => .refl _
  | x :: r => (ins_perm x (srt r)).trans ((srt_perm r).cons x)
theorem ins_up (x : Int) : ∀ l : List Int, l.Pairwise (· ≤ ·) → (ins x l).Pairwise (· ≤ ·)
  | [], _ => List.pairwise_singleton _ _
  | y :: r, h => by
    obtain ⟨h1, h2⟩ := List.pairwise_cons.mp h
    unfold ins
    split
    · rename_i hxy
      refine List.pairwise_cons.mpr ⟨fun z hz => ?_, h⟩
      rcases List.mem_cons.mp hz with e | hz
      · omega
      · have := h1 z hz; omega
    · rename_i hxy
      refine List.pairwise_cons.mpr ⟨fun z hz => ?_, ins_up x r h2⟩
      rcases List.mem_cons.mp ((ins_perm x r).mem_iff.mp hz) with e | hz
      · omega
      · exact h1 z hz
theorem srt_up : ∀ l : List Int, (srt l).Pairwise (· ≤ ·)
  | [] => .nil
  | x :: r => ins_up x _ (srt_up r)
theorem up_uniq : ∀ {l m : List Int}, l.Perm m → l.Pairwise (· ≤ ·) → m.Pairwise (· ≤ ·) → l = m
  | [], m, p, _, _ => (List.nil_perm.mp p).symm
  | x :: l, [], p, _, _ => by simpa using p
  | x :: l, y :: m, p, h, h' => by
    obtain ⟨a1, a2⟩ := List.pairwise_cons.mp h
    obtain ⟨b1, b2⟩ := List.pairwise_cons.mp h'
    have e : x = y := by
      have m1 : x ∈ y :: m := p.mem_iff.mp (List.mem_cons_self ..)
      have m2 : y ∈ x :: l := p.mem_iff.mpr (List.mem_cons_self ..)
      rcases List.mem_cons.mp m1 with e | m1
      · exact e
      · rcases List.mem_cons.mp m2 with e | m2
        · exact e.symm
        · have := b1 x m1
          have := a1 y m2
          omega
    subst e
    rw [up_uniq (p.cons_inv) a2 b2]
theorem srt_of {l m : List Int} (p : m.Perm l) (h : m.Pairwise (· ≤ ·)) : m = srt l := up_uniq (p.trans (srt_perm l).symm) h (srt_up l)
theorem srt_congr {l m : List Int} (p : l.Perm m) : srt l = srt m := up_uniq ((srt_perm l).trans (p.trans (srt_perm m).symm)) (srt_up l) (srt_up m)
theorem srt_length (l : List Int) : (srt l).length = l.length := (srt_perm l).length_eq
theorem le_of_lt_pw {l : List Int} (h : l.Pairwise (· < ·)) : l.Pairwise (· ≤ ·) := h.imp fun h => Int.le_of_lt h
theorem srt_self {l : List Int} (h : l.Pairwise (· < ·)) : srt l = l := (srt_of (.refl _) (le_of_lt_pw h)).symm
theorem lt_of_le_nodup : ∀ {l : List Int}, l.Pairwise (· ≤ ·) → l.Nodup → l.Pairwise (· < ·)
  | [], _, _ => .nil
  | x :: r, h, n => by
    obtain ⟨h1, h2⟩ := List.pairwise_cons.mp h
    obtain ⟨n1, n2⟩ := List.nodup_cons.mp n
    refine List.pairwise_cons.mpr ⟨fun y hy => ?_, lt_of_le_nodup h2 n2⟩
    have := h1 y hy
    have : x ≠ y := fun e => n1 (e ▸ hy)
    omega
theorem srt_lt {l : List Int} (n : l.Nodup) : (srt l).Pairwise (· < ·) := lt_of_le_nodup (srt_up l) ((srt_perm l).nodup_iff.mpr n)

/-! ### lots -/
structure Lot (n : Nat) (l : List Int) : Prop where
  up : l.Pairwise (· < ·)
  ge : ∀ x ∈ l, 0 ≤ x
  lt : ∀ x ∈ l, x < (n : Int)
theorem Lot.nodup {n : Nat} {l : List Int} (h : Lot n l) : l.Nodup := h.up.imp fun h e => by omega
theorem nodup_map {f : Int → Int} : ∀ {l : List Int}, l.Nodup → (∀ x ∈ l, ∀ y ∈ l, f x = f y → x = y) → (l.map f).Nodup
  | [], _, _ => .nil
  | a :: l, h, inj => by
    obtain ⟨h1, h2⟩ := List.nodup_cons.mp h
    rw [List.map_cons]
    refine List.nodup_cons.mpr ⟨fun m => ?_, nodup_map h2 fun x hx y hy => inj x (List.mem_cons_of_mem _ hx) y (List.mem_cons_of_mem _ hy)⟩
    obtain ⟨y, hy, e⟩ := List.mem_map.mp m
    have := inj y (List.mem_cons_of_mem _ hy) a (List.mem_cons_self ..) e
    subst this
    exact h1 hy
/-- a map that is one to one on the ring leads lots to lots -/
theorem Lot.by {n : Nat} {l : List Int} (h : Lot n l) (f : Int → Int) (rg : ∀ x, x ∈ l → 0 ≤ f x ∧ f x < n) (inj : ∀ x ∈ l, ∀ y ∈ l, f x = f y → x = y) : Lot n (srt (l.map f)) := by
  have mem : ∀ x ∈ srt (l.map f), 0 ≤ x ∧ x < (n : Int) := fun x hx => by
    obtain ⟨y, hy, rfl⟩ := List.mem_map.mp ((srt_perm _).mem_iff.mp hx)
    exact rg y hy
  exact ⟨srt_lt (nodup_map h.nodup inj), fun x hx => (mem x hx).1, fun x hx => (mem x hx).2⟩
theorem lot_len : ∀ {l : List Int} {lo hi : Int}, l.Pairwise (· < ·) → (∀ x ∈ l, lo ≤ x) → (∀ x ∈ l, x < hi) → lo ≤ hi → (l.length : Int) ≤ hi - lo
  | [], lo, hi, _, _, _, h => by simp; omega
  | x :: r, lo, hi, p, a, b, h => by
    obtain ⟨p1, p2⟩ := List.pairwise_cons.mp p
    have h1 := a x (List.mem_cons_self ..)
    have h2 := b x (List.mem_cons_self ..)
    have ih := lot_len (lo := x + 1) (hi := hi) p2 (fun y hy => by have := p1 y hy; omega) (fun y hy => b y (List.mem_cons_of_mem _ hy)) (by omega)
    rw [List.length_cons]
    omega
theorem Lot.len {n : Nat} {l : List Int} (h : Lot n l) : l.length ≤ n := by
  have := lot_len (lo := 0) (hi := (n : Int)) h.up h.ge h.lt (by omega)
  omega

/-! ### rolled -/
def at_ (n : Nat) (L : List (Int × Int)) (d : Int) : Int := sm L fun x => if x.1 % (n : Int) = d then x.2 else 0
def roll (n : Nat) (L : List (Int × Int)) : List Int := (List.range n).map fun (d : Nat) => at_ n L (d : Int)
theorem roll_length (n : Nat) (L : List (Int × Int)) : (roll n L).length = n := by
  unfold roll; rw [List.length_map, List.length_range]
theorem roll_get {n : Nat} {L : List (Int × Int)} {d : Nat} (h : d < n) : (roll n L)[d]? = some (at_ n L (d : Int)) := by
  unfold roll; rw [List.getElem?_map, List.getElem?_range h]; rfl
theorem roll_getD {n : Nat} {L : List (Int × Int)} {d : Nat} (h : d < n) : (roll n L).getD d 0 = at_ n L (d : Int) := by
  rw [List.getD_eq_getElem?_getD, roll_get h]; rfl
theorem roll_nil (n : Nat) : roll n [] = List.replicate n 0 := by
  refine List.ext_getElem? fun i => ?_
  by_cases h : i < n
  · rw [roll_get h, List.getElem?_replicate, if_pos h]; rfl
  · rw [List.getElem?_eq_none (by rw [roll_length]; omega), List.getElem?_eq_none (by rw [List.length_replicate]; omega)]
theorem roll_congr {n : Nat} {L M : List (Int × Int)} (h : ∀ d : Nat, d < n → at_ n L (d : Int) = at_ n M (d : Int)) : roll n L = roll n M := by
  unfold roll
  exact List.map_congr_left fun d hd => h d (List.mem_range.mp hd)
theorem at_snoc (n : Nat) (L : List (Int × Int)) (p w d : Int) : at_ n (L ++ [(p, w)]) d = at_ n L d + if p % (n : Int) = d then w else 0 := by
  unfold at_; rw [sm_append, sm_cons, sm_nil]
  show _ + ((if p % (n : Int) = d then w else 0) + 0) = _
  omega
theorem roll_snoc {n : Nat} (hn : 0 < n) (L : List (Int × Int)) (p w : Int) (k : Nat) (hk : p % (n : Int) = (k : Int)) : (roll n L).set k (at_ n L (k : Int) + w) = roll n (L ++ [(p, w)]) := by
  refine List.ext_getElem? fun i => ?_
  have hk2 : k < n := by
    have := Int.emod_lt_of_pos p (show (0 : Int) < (n : Int) by omega)
    omega
  by_cases h : i < n
  · rw [roll_get h, at_snoc, hk]
    by_cases e : i = k
    · subst e
      rw [List.getElem?_set_self (by rw [roll_length]; exact h), if_pos rfl]
    · rw [List.getElem?_set_ne (fun q => e q.symm), roll_get h, if_neg (by omega), Int.add_zero]
  · rw [List.getElem?_eq_none (by rw [List.length_set, roll_length]; omega), List.getElem?_eq_none (by rw [roll_length]; omega)]

/-- all pairs -/
def tens {α β γ : Type} (A : List α) (B : List β) (f : α → β → γ) : List γ := A.flatMap fun a => B.map fun b => f a b
theorem sm_tens {α β γ : Type} (A : List α) (B : List β) (f : α → β → γ) (g : γ → Int) : sm (tens A B f) g = sm A fun a => sm B fun b => g (f a b) := by
  unfold tens; rw [sm_flatMap]
  exact sm_congr fun a _ => sm_map _ _ _
/-- a turn of the outer walk is at its start, in its middle, at its end -/
def tens' {α β γ : Type} (A : List α) (B : List β) (f : α → β → γ) (i j : Nat) (a : α) : List γ := tens (A.take i) B f ++ (B.take j).map fun b => f a b
theorem take_more {α : Type} : ∀ {l : List α} {i : Nat} {x : α}, l[i]? = some x → l.take (i + 1) = l.take i ++ [x]
  | [], i, x, h => by simp at h
  | a :: l, 0, x, h => by
    have e : a = x := Option.some.inj h
    subst e; rfl
  | a :: l, i + 1, x, h => by
    have ih := take_more (l := l) (i := i) (x := x) h
    show a :: l.take (i + 1) = a :: l.take i ++ [x]
    rw [ih]; rfl
theorem tens'_zero {α β γ : Type} (A : List α) (B : List β) (f : α → β → γ) (i : Nat) (a : α) : tens' A B f i 0 a = tens (A.take i) B f := by
  unfold tens'; rw [List.take_zero, List.map_nil, List.append_nil]
theorem tens'_succ {α β γ : Type} {A : List α} {B : List β} {f : α → β → γ} {i j : Nat} {a : α} {b : β} (h : B[j]? = some b) : tens' A B f i (j + 1) a = tens' A B f i j a ++ [f a b] := by
  unfold tens'; rw [take_more h, List.map_append, List.append_assoc]; rfl
theorem tens'_full {α β γ : Type} {A : List α} {B : List β} {f : α → β → γ} {i : Nat} {a : α} (h : A[i]? = some a) : tens' A B f i B.length a = tens (A.take (i + 1)) B f := by
  unfold tens' tens; rw [take_more h, List.flatMap_append, List.take_length]
  simp [List.flatMap_cons]

/-! ### differences round -/
def gapsL (A B : List Int) : List (Int × Int) := tens A B fun a b => (a - b, 1)
def ind (n : Nat) (x d : Int) : Int := if x % (n : Int) = d then 1 else 0
theorem at_gaps (n : Nat) (A B : List Int) (d : Int) : at_ n (gapsL A B) d = sm A fun a => sm B fun b => ind n (a - b) d := by
  unfold at_ gapsL; rw [sm_tens]; rfl
theorem gaps_perm {n : Nat} {A A' : List Int} (p : A.Perm A') (d : Int) : at_ n (gapsL A A) d = at_ n (gapsL A' A') d := by
  rw [at_gaps, at_gaps, sm_perm p]
  exact sm_congr fun a _ => sm_perm p _
theorem gaps_map {n : Nat} (f : Int → Int) (l : List Int) (d : Int) : at_ n (gapsL (l.map f) (l.map f)) d = sm l fun a => sm l fun b => ind n (f a - f b) d := by
  rw [at_gaps, sm_map]
  exact sm_congr fun a _ => sm_map _ _ _
theorem emod_sub_emod' (a b n : Int) : (a % n - b % n) % n = (a - b) % n := by
  rw [Int.sub_emod a b n]
/-- turned -/
theorem gaps_turn {n : Nat} (l : List Int) (t : Int) : roll n (gapsL (srt (l.map fun k => (k + t) % (n : Int))) (srt (l.map fun k => (k + t) % (n : Int)))) = roll n (gapsL l l) :=
  roll_congr fun d _ => by
    rw [gaps_perm (srt_perm _), gaps_map, at_gaps]
    refine sm_congr fun a _ => sm_congr fun b _ => ?_
    unfold ind
    rw [emod_sub_emod']
    have e : a + t - (b + t) = a - b := by omega
    rw [e]
/-- mirrored -/
theorem gaps_mirror {n : Nat} (l : List Int) : roll n (gapsL (srt (l.map fun k => (-k) % (n : Int))) (srt (l.map fun k => (-k) % (n : Int)))) = roll n (gapsL l l) :=
  roll_congr fun d _ => by
    rw [gaps_perm (srt_perm _), gaps_map, at_gaps, sm_comm]
    refine sm_congr fun a _ => sm_congr fun b _ => ?_
    unfold ind
    rw [emod_sub_emod']
    have e : -b - -a = a - b := by omega
    rw [e]
theorem dvd_of_emod_eq {a b n : Int} (h : a % n = b % n) : n ∣ a - b := Int.dvd_of_emod_eq_zero (by rw [Int.sub_emod, h, Int.sub_self, Int.zero_emod])
theorem coprime_cancel {n : Nat} {M x y : Int} (hg : Nat.gcd n M.natAbs = 1) (h : (x * M) % (n : Int) = (y * M) % (n : Int)) : x % (n : Int) = y % (n : Int) := by
  have h1 : (n : Int) ∣ (x - y) * M := by
    rw [Int.sub_mul]
    exact dvd_of_emod_eq h
  have h2 : n ∣ (x - y).natAbs * M.natAbs := by
    rw [← Int.natAbs_mul]
    exact Int.ofNat_dvd_left.mp h1
  have h3 : n ∣ (x - y).natAbs := Nat.Coprime.dvd_of_dvd_mul_right hg h2
  have h4 : (n : Int) ∣ x - y := Int.ofNat_dvd_left.mpr h3
  exact Int.emod_eq_emod_iff_emod_sub_eq_zero.mpr (Int.emod_eq_zero_of_dvd h4)
/-- multiplied -/
theorem gaps_mult {n : Nat} (hn : 0 < n) (l : List Int) (M : Int) (hg : Nat.gcd n M.natAbs = 1) (d : Int) (h0 : 0 ≤ d) (h1 : d < n) :
    at_ n (gapsL (srt (l.map fun k => (k * M) % (n : Int))) (srt (l.map fun k => (k * M) % (n : Int)))) ((M * d) % (n : Int)) = at_ n (gapsL l l) d := by
  rw [gaps_perm (srt_perm _), gaps_map, at_gaps]
  refine sm_congr fun a _ => sm_congr fun b _ => ?_
  unfold ind
  rw [emod_sub_emod']
  have e : a * M - b * M = (a - b) * M := (Int.sub_mul _ _ _).symm
  rw [e, Int.mul_comm M d]
  by_cases h : (a - b) % (n : Int) = d
  · rw [if_pos h, if_pos]
    rw [Int.mul_emod, h, ← Int.emod_eq_of_lt h0 h1, ← Int.mul_emod, Int.emod_eq_of_lt h0 h1]
  · rw [if_neg h, if_neg]
    intro q
    have := coprime_cancel hg q
    rw [Int.emod_eq_of_lt h0 h1] at this
    exact h this
theorem emod_inj {x y t n : Int} (hx : 0 ≤ x ∧ x < n) (hy : 0 ≤ y ∧ y < n) (h : (x + t) % n = (y + t) % n) : x = y := by
  have h1 : n ∣ (x + t) - (y + t) := dvd_of_emod_eq h
  have e : x + t - (y + t) = x - y := by omega
  rw [e] at h1
  have := Int.emod_eq_emod_iff_emod_sub_eq_zero.mpr (Int.emod_eq_zero_of_dvd h1)
  rwa [Int.emod_eq_of_lt hx.1 hx.2, Int.emod_eq_of_lt hy.1 hy.2] at this
theorem Lot.turn {n : Nat} (hn : 0 < n) {l : List Int} (h : Lot n l) (t : Int) : Lot n (srt (l.map fun k => (k + t) % (n : Int))) :=
  h.by _ (fun x _ => ⟨Int.emod_nonneg _ (by omega), Int.emod_lt_of_pos _ (by omega)⟩) fun x hx y hy e => emod_inj ⟨h.ge x hx, h.lt x hx⟩ ⟨h.ge y hy, h.lt y hy⟩ e
theorem neg_emod_eq {n : Nat} {k : Int} (h0 : 0 ≤ k) (h1 : k < n) : (-k) % (n : Int) = if 0 < k then (n : Int) - k else 0 := by
  by_cases h : 0 < k
  · rw [if_pos h]
    have e : -k = ((n : Int) - k) + (n : Int) * (-1) := by omega
    rw [e, Int.add_mul_emod_self_left]
    exact Int.emod_eq_of_lt (by omega) (by omega)
  · have e : k = 0 := by omega
    subst e
    rw [if_neg h]; rfl
theorem Lot.mirror {n : Nat} (hn : 0 < n) {l : List Int} (h : Lot n l) : Lot n (srt (l.map fun k => (-k) % (n : Int))) :=
  h.by _ (fun x _ => ⟨Int.emod_nonneg _ (by omega), Int.emod_lt_of_pos _ (by omega)⟩) fun x hx y hy e => by
    have a := h.ge x hx; have b := h.lt x hx; have c := h.ge y hy; have d := h.lt y hy
    have e : (-x) % (n : Int) = (-y) % (n : Int) := e
    rw [neg_emod_eq a b, neg_emod_eq c d] at e
    split at e <;> split at e <;> omega
theorem Lot.mult {n : Nat} (hn : 0 < n) {l : List Int} (h : Lot n l) (M : Int) (hg : Nat.gcd n M.natAbs = 1) : Lot n (srt (l.map fun k => (k * M) % (n : Int))) :=
  h.by _ (fun x _ => ⟨Int.emod_nonneg _ (by omega), Int.emod_lt_of_pos _ (by omega)⟩) fun x hx y hy e => by
    have := coprime_cancel hg e
    rwa [Int.emod_eq_of_lt (h.ge x hx) (h.lt x hx), Int.emod_eq_of_lt (h.ge y hy) (h.lt y hy)] at this
theorem mirror_mirror {n : Nat} {l : List Int} (h : Lot n l) : srt ((srt (l.map fun k => (-k) % (n : Int))).map fun k => (-k) % (n : Int)) = l := by
  have p : ((srt (l.map fun k => (-k) % (n : Int))).map fun k => (-k) % (n : Int)).Perm l := by
    refine ((srt_perm _).map _).trans ?_
    rw [List.map_map]
    have e : l.map ((fun k => (-k) % (n : Int)) ∘ fun k => (-k) % (n : Int)) = l.map id := by
      refine List.map_congr_left fun k hk => ?_
      show (-((-k) % (n : Int))) % (n : Int) = k
      have a := h.ge k hk; have b := h.lt k hk
      rw [neg_emod_eq a b]
      by_cases hk0 : 0 < k
      · rw [if_pos hk0, neg_emod_eq (by omega) (by omega), if_pos (by omega)]; omega
      · have : k = 0 := by omega
        subst this
        rw [if_neg hk0]; rfl
    rw [e, List.map_id]
  rw [srt_congr p, srt_self h.up]
theorem mirror_eq {n : Nat} {l : List Int} (h : Lot n l) : (l.map fun k => (-k) % (n : Int)) = l.map fun k => if 0 < k then (n : Int) - k else 0 :=
  List.map_congr_left fun k hk => neg_emod_eq (h.ge k hk) (h.lt k hk)

/-! ### the numbers without a common divisor -/
theorem gcd_one {n m : Nat} (hm : 1 ≤ m) (h : ∀ k : Nat, 2 ≤ k → k ≤ m → ¬ (m % k = 0 ∧ n % k = 0)) : Nat.gcd n m = 1 := by
  have h1 : 0 < Nat.gcd n m := Nat.gcd_pos_of_pos_right _ hm
  have h2 : Nat.gcd n m ≤ m := Nat.gcd_le_right _ hm
  by_cases e : Nat.gcd n m = 1
  · exact e
  · exact (h (Nat.gcd n m) (by omega) h2 ⟨Nat.mod_eq_zero_of_dvd (Nat.gcd_dvd_right n m), Nat.mod_eq_zero_of_dvd (Nat.gcd_dvd_left n m)⟩).elim

/-! ### products round -/
theorem sm_range_pick : ∀ (n : Nat) (h : Nat → Int) (k : Nat) (w : Int), k < n → sm (List.range n) (fun (d : Nat) => h d * if (k : Int) = (d : Int) then w else 0) = h k * w
  | 0, _, _, _, hk => by omega
  | n + 1, h, k, w, hk => by
    rw [List.range_succ, sm_append, sm_cons, sm_nil]
    by_cases e : k = n
    · subst e
      rw [if_pos rfl, sm_congr (h := fun _ => 0), sm_zero]
      · omega
      · intro d hd
        have := List.mem_range.mp hd
        rw [if_neg (by omega), Int.mul_zero]
    · rw [if_neg (by omega), Int.mul_zero, sm_range_pick n h k w (by omega)]
      omega
theorem sm_roll {n : Nat} (hn : 0 < n) (A : List (Int × Int)) (h : Nat → Int) : sm (List.range n) (fun (k : Nat) => h k * at_ n A (k : Int)) = sm A fun a => h (a.1 % (n : Int)).toNat * a.2 := by
  have e : sm (List.range n) (fun (k : Nat) => h k * at_ n A (k : Int)) = sm (List.range n) fun (k : Nat) => sm A fun a => h k * if a.1 % (n : Int) = (k : Int) then a.2 else 0 :=
    sm_congr fun k _ => (sm_mul _ _ _).symm
  rw [e, sm_comm]
  refine sm_congr fun a _ => ?_
  have h0 := Int.emod_nonneg a.1 (show (n : Int) ≠ 0 by omega)
  have h1 := Int.emod_lt_of_pos a.1 (show (0 : Int) < (n : Int) by omega)
  have e2 : a.1 % (n : Int) = ((a.1 % (n : Int)).toNat : Int) := by omega
  have := sm_range_pick n h (a.1 % (n : Int)).toNat a.2 (by omega)
  rw [← e2] at this
  exact this
/-- the list of terms of a product round -/
def timesL (one other : List Int) (s : Int) : List (Int × Int) := tens (List.range one.length) (List.range other.length) fun k j => ((k : Int) + s * (j : Int), one.getD k 0 * other.getD j 0)
theorem at_times {n : Nat} (hn : 0 < n) (A B : List (Int × Int)) (s d : Int) : at_ n (timesL (roll n A) (roll n B) s) d = sm A fun a => sm B fun b => ind n (a.1 + s * b.1) d * (a.2 * b.2) := by
  unfold at_ timesL
  rw [sm_tens, roll_length, roll_length]
  have e1 : sm (List.range n) (fun (k : Nat) => sm (List.range n) fun (j : Nat) => if ((k : Int) + s * (j : Int)) % (n : Int) = d then (roll n A).getD k 0 * (roll n B).getD j 0 else 0) =
      sm (List.range n) fun (k : Nat) => (sm B fun b => ind n ((k : Int) + s * (((b.1 % (n : Int)).toNat : Nat) : Int)) d * b.2) * at_ n A (k : Int) := by
    refine sm_congr fun k hk => ?_
    rw [← sm_roll hn B fun j => ind n ((k : Int) + s * (j : Int)) d, ← sm_mulr]
    refine sm_congr fun j hj => ?_
    rw [roll_getD (List.mem_range.mp hk), roll_getD (List.mem_range.mp hj)]
    unfold ind
    split
    · rw [Int.one_mul, Int.mul_comm]
    · rw [Int.zero_mul, Int.zero_mul]
  show sm (List.range n) (fun (k : Nat) => sm (List.range n) fun (j : Nat) => if ((k : Int) + s * (j : Int)) % (n : Int) = d then (roll n A).getD k 0 * (roll n B).getD j 0 else 0) = _
  rw [e1, sm_roll hn A fun k => sm B fun b => ind n ((k : Int) + s * (((b.1 % (n : Int)).toNat : Nat) : Int)) d * b.2]
  refine sm_congr fun a _ => ?_
  rw [← sm_mulr]
  refine sm_congr fun b _ => ?_
  have a0 := Int.emod_nonneg a.1 (show (n : Int) ≠ 0 by omega)
  have b0 := Int.emod_nonneg b.1 (show (n : Int) ≠ 0 by omega)
  have ea : (((a.1 % (n : Int)).toNat : Nat) : Int) = a.1 % (n : Int) := by omega
  have eb : (((b.1 % (n : Int)).toNat : Nat) : Int) = b.1 % (n : Int) := by omega
  rw [ea, eb]
  have e : (a.1 % (n : Int) + s * (b.1 % (n : Int))) % (n : Int) = (a.1 + s * b.1) % (n : Int) := by
    rw [Int.emod_add_emod, Int.add_emod, Int.mul_emod, Int.emod_emod, ← Int.mul_emod, ← Int.add_emod]
  unfold ind
  rw [e, Int.mul_assoc, Int.mul_comm b.2 a.2]

/-! ### what a row is worth under any weighing of its places -/
def wt (L : List (Int × Int)) (g : Int → Int) : Int := sm L fun x => g x.1 * x.2
theorem at_wt (n : Nat) (L : List (Int × Int)) (d : Int) : at_ n L d = wt L fun p => ind n p d := by
  unfold at_ wt
  refine sm_congr fun x _ => ?_
  show (if x.1 % (n : Int) = d then x.2 else 0) = (if x.1 % (n : Int) = d then 1 else 0) * x.2
  split
  · rw [Int.one_mul]
  · rw [Int.zero_mul]
/-- P is a product of A and B, by its weighings; s = -1: of A and the mirrored B -/
def IsProd (P A B : List (Int × Int)) (s : Int) : Prop := ∀ g : Int → Int, wt P g = sm A fun a => sm B fun b => g (a.1 + s * b.1) * (a.2 * b.2)
theorem roll_prod {n : Nat} (hn : 0 < n) {P A B : List (Int × Int)} {s : Int} (h : IsProd P A B s) : roll n P = roll n (timesL (roll n A) (roll n B) s) :=
  roll_congr fun d _ => by
    rw [at_wt, h, at_times hn]
theorem sm4 {α β : Type} (A : List α) (B : List β) (f : α → β → α → β → Int) : (sm A fun a => sm B fun b => sm A fun a' => sm B fun b' => f a b a' b') = sm A fun a => sm B fun b' => sm A fun a' => sm B fun b => f a b a' b' := by
  refine sm_congr fun a _ => ?_
  have e1 : (sm B fun b => sm A fun a' => sm B fun b' => f a b a' b') = sm A fun a' => sm B fun b => sm B fun b' => f a b a' b' := sm_comm _ _ _
  have e2 : (sm B fun b' => sm A fun a' => sm B fun b => f a b a' b') = sm A fun a' => sm B fun b' => sm B fun b => f a b a' b' := sm_comm _ _ _
  rw [e1, e2]
  exact sm_congr fun a' _ => sm_comm _ _ _
theorem prod_sq {n : Nat} {P A B : List (Int × Int)} {s : Int} (h : IsProd P A B s) (d : Int) :
    (sm P fun x => sm P fun y => ind n (x.1 + (-1) * y.1) d * (x.2 * y.2)) = sm A fun a => sm B fun b => sm A fun a' => sm B fun b' => ind n (a.1 + s * b.1 + (-1) * (a'.1 + s * b'.1)) d * (a.2 * b.2 * (a'.2 * b'.2)) := by
  have e1 : (sm P fun x => sm P fun y => ind n (x.1 + (-1) * y.1) d * (x.2 * y.2)) = wt P fun p => wt P fun q => ind n (p + (-1) * q) d := by
    unfold wt
    refine sm_congr fun x _ => ?_
    rw [← sm_mulr]
    refine sm_congr fun y _ => ?_
    rw [Int.mul_assoc, Int.mul_comm y.2 x.2]
  rw [e1, h]
  refine sm_congr fun a _ => sm_congr fun b _ => ?_
  rw [h, ← sm_mulr]
  refine sm_congr fun a' _ => ?_
  rw [← sm_mulr]
  refine sm_congr fun b' _ => ?_
  rw [Int.mul_assoc, Int.mul_comm (a'.2 * b'.2)]
/-- rolled, U V and U V' have the same differences round -/
theorem same_round {n : Nat} (hn : 0 < n) {P P' A B : List (Int × Int)} (h : IsProd P A B 1) (h' : IsProd P' A B (-1)) :
    roll n (timesL (roll n P) (roll n P) (-1)) = roll n (timesL (roll n P') (roll n P') (-1)) :=
  roll_congr fun d _ => by
    rw [at_times hn, at_times hn, prod_sq h, prod_sq h', sm4]
    refine sm_congr fun a _ => sm_congr fun b' _ => sm_congr fun a' _ => sm_congr fun b _ => ?_
    have e : a.1 + 1 * b.1 + (-1) * (a'.1 + 1 * b'.1) = a.1 + (-1) * b'.1 + (-1) * (a'.1 + (-1) * b.1) := by omega
    rw [e]
    have e2 : a.2 * b.2 * (a'.2 * b'.2) = a.2 * b'.2 * (a'.2 * b.2) := by
      rw [Int.mul_assoc, Int.mul_assoc, Int.mul_left_comm b.2 a'.2, Int.mul_left_comm b'.2 a'.2, Int.mul_comm b.2 b'.2]
    rw [e2]

/-! ### rows -/
structure Row (L : List (Int × Int)) : Prop where
  up : (L.map (·.1)).Pairwise (· < ·)
  nz : ∀ x ∈ L, x.2 ≠ 0
def mir (L : List (Int × Int)) : List (Int × Int) := L.reverse.map fun x => (-x.1, x.2)
theorem Row.mir {L : List (Int × Int)} (h : Row L) : Row (mir L) := by
  refine ⟨?_, fun x hx => ?_⟩
  · have e : ((Sg.mir L).map (·.1)) = ((L.map (·.1)).reverse).map fun p => -p := by
      unfold Sg.mir
      rw [List.map_map, ← List.map_reverse, List.map_map]
      rfl
    rw [e, List.pairwise_map, List.pairwise_reverse]
    exact h.up.imp fun h => by omega
  · obtain ⟨y, hy, rfl⟩ := List.mem_map.mp hx
    exact h.nz y (List.mem_reverse.mp hy)
theorem mir_wt (L : List (Int × Int)) (g : Int → Int → Int) : (sm (mir L) fun x => g x.1 x.2) = sm L fun x => g (-x.1) x.2 := by
  unfold mir; rw [sm_map, sm_perm (List.reverse_perm L)]
theorem mir_len (L : List (Int × Int)) : (mir L).length = L.length := by unfold mir; rw [List.length_map, List.length_reverse]
theorem IsProd.mir {P A B : List (Int × Int)} (h : IsProd P A (mir B) 1) : IsProd P A B (-1) := fun g => by
  rw [h g]
  refine sm_congr fun a _ => ?_
  rw [mir_wt B fun p w => g (a.1 + 1 * p) * (a.2 * w)]
  refine sm_congr fun b _ => ?_
  have e : a.1 + 1 * -b.1 = a.1 + -1 * b.1 := by omega
  rw [e]

/-! ### dicts of sums -/
def look (D : List (Int × Int)) (k : Int) : Option Int := (D.find? fun x => decide (x.1 = k)).map (·.2)
def put (D : List (Int × Int)) (k v : Int) : List (Int × Int) := if (D.any fun x => decide (x.1 = k)) = true then D.map (fun x => if x.1 = k then (x.1, v) else x) else D ++ [(k, v)]
theorem any_iff {D : List (Int × Int)} {k : Int} : (D.any fun x => decide (x.1 = k)) = true ↔ k ∈ D.map (·.1) := by
  rw [List.any_eq_true, List.mem_map]
  constructor
  · rintro ⟨x, hx, e⟩; exact ⟨x, hx, of_decide_eq_true e⟩
  · rintro ⟨x, hx, e⟩; exact ⟨x, hx, decide_eq_true e⟩
theorem look_none {D : List (Int × Int)} {k : Int} (h : ¬ k ∈ D.map (·.1)) : look D k = none := by
  unfold look
  rw [List.find?_eq_none.mpr]
  · rfl
  · intro x hx e
    exact h (List.mem_map.mpr ⟨x, hx, of_decide_eq_true e⟩)
theorem look_mem : ∀ {D : List (Int × Int)} {k v : Int}, (D.map (·.1)).Nodup → (k, v) ∈ D → look D k = some v
  | [], _, _, _, h => by simp at h
  | x :: D, k, v, n, h => by
    rw [List.map_cons] at n
    obtain ⟨n1, n2⟩ := List.nodup_cons.mp n
    rcases List.mem_cons.mp h with e | h
    · subst e; simp [look, List.find?_cons]
    · have ne : ¬ x.1 = k := fun e => n1 (List.mem_map.mpr ⟨(k, v), h, e.symm⟩)
      have := look_mem n2 h
      simpa [look, List.find?_cons, ne] using this
theorem look_some : ∀ {D : List (Int × Int)} {k : Int}, k ∈ D.map (·.1) → ∃ v, look D k = some v ∧ (k, v) ∈ D
  | [], _, h => by simp at h
  | x :: D, k, h => by
    by_cases e : x.1 = k
    · exact ⟨x.2, by simp [look, List.find?_cons, e], by subst e; exact List.mem_cons_self ..⟩
    · rw [List.map_cons] at h
      rcases List.mem_cons.mp h with q | h
      · exact absurd q.symm e
      · obtain ⟨v, h1, h2⟩ := look_some h
        exact ⟨v, by simpa [look, List.find?_cons, e] using h1, List.mem_cons_of_mem _ h2⟩
theorem put_keys (D : List (Int × Int)) (k v : Int) : (put D k v).map (·.1) = if k ∈ D.map (·.1) then D.map (·.1) else D.map (·.1) ++ [k] := by
  unfold put
  by_cases h : k ∈ D.map (·.1)
  · rw [if_pos (any_iff.mpr h), if_pos h, List.map_map]
    refine List.map_congr_left fun x _ => ?_
    show (if x.1 = k then (x.1, v) else x).1 = x.1
    split <;> rfl
  · rw [if_neg (fun e => h (any_iff.mp e)), if_neg h, List.map_append]; rfl
theorem put_nodup {D : List (Int × Int)} {k v : Int} (n : (D.map (·.1)).Nodup) : ((put D k v).map (·.1)).Nodup := by
  rw [put_keys]
  split
  · exact n
  · rename_i h
    rw [List.nodup_append]
    exact ⟨n, by simp, fun a ha b hb e => h (by simp at hb; subst hb; subst e; exact ha)⟩
theorem put_len (D : List (Int × Int)) (k v : Int) : (put D k v).length ≤ D.length + 1 := by
  unfold put
  split
  · rw [List.length_map]; omega
  · rw [List.length_append]; simp
theorem put_mem {D : List (Int × Int)} {k v : Int} {x : Int × Int} (h : x ∈ put D k v) : x ∈ D ∨ x = (k, v) := by
  unfold put at h
  split at h
  · obtain ⟨y, hy, e⟩ := List.mem_map.mp h
    by_cases q : y.1 = k
    · rw [if_pos q, q] at e; exact .inr e.symm
    · rw [if_neg q] at e; subst e; exact .inl hy
  · rcases List.mem_append.mp h with h | h
    · exact .inl h
    · exact .inr (by simpa using h)
theorem wt_repl : ∀ {D : List (Int × Int)} {k v w : Int} (g : Int → Int), (D.map (·.1)).Nodup → (k, v) ∈ D → wt (D.map fun x => if x.1 = k then (x.1, v + w) else x) g = wt D g + g k * w
  | [], _, _, _, _, _, h => by simp at h
  | x :: D, k, v, w, g, n, h => by
    rw [List.map_cons] at n
    obtain ⟨n1, n2⟩ := List.nodup_cons.mp n
    unfold wt
    rw [List.map_cons, sm_cons, sm_cons]
    rcases List.mem_cons.mp h with e | h
    · subst e
      rw [if_pos rfl]
      have e : D.map (fun x => if x.1 = k then (x.1, v + w) else x) = D.map id := List.map_congr_left fun y hy => by
        rw [if_neg fun q => n1 (List.mem_map.mpr ⟨y, hy, q⟩)]; rfl
      rw [e, List.map_id]
      show g k * (v + w) + _ = g k * v + _ + _
      rw [Int.mul_add]; omega
    · have ne : ¬ x.1 = k := fun e => n1 (List.mem_map.mpr ⟨(k, v), h, e.symm⟩)
      have := wt_repl (w := w) g n2 h
      unfold wt at this
      rw [if_neg ne, this]; omega
theorem put_wt {D : List (Int × Int)} {k w : Int} (g : Int → Int) (n : (D.map (·.1)).Nodup) : wt (put D k ((look D k).getD 0 + w)) g = wt D g + g k * w := by
  by_cases h : k ∈ D.map (·.1)
  · obtain ⟨v, h1, h2⟩ := look_some h
    unfold put
    rw [if_pos (any_iff.mpr h), h1]
    exact wt_repl g n h2
  · unfold put
    rw [if_neg (fun e => h (any_iff.mp e)), look_none h]
    unfold wt
    rw [sm_append, sm_cons, sm_nil]
    show _ + (g k * (0 + w) + 0) = _
    rw [Int.zero_add]; omega
/-- the sums of a list of terms -/
def sums (L : List (Int × Int)) : List (Int × Int) := L.foldl (fun D x => put D x.1 ((look D x.1).getD 0 + x.2)) []
theorem sums_snoc (L : List (Int × Int)) (x : Int × Int) : sums (L ++ [x]) = put (sums L) x.1 ((look (sums L) x.1).getD 0 + x.2) := by
  unfold sums; rw [List.foldl_append]; rfl
theorem fold_ok : ∀ (L D : List (Int × Int)), (D.map (·.1)).Nodup →
    ((L.foldl (fun D x => put D x.1 ((look D x.1).getD 0 + x.2)) D).map (·.1)).Nodup ∧ (L.foldl (fun D x => put D x.1 ((look D x.1).getD 0 + x.2)) D).length ≤ D.length + L.length ∧
    ∀ g, wt (L.foldl (fun D x => put D x.1 ((look D x.1).getD 0 + x.2)) D) g = wt D g + wt L g
  | [], D, n => ⟨n, by simp, fun g => by show _ = _ + wt [] g; unfold wt; rw [sm_nil, Int.add_zero]; rfl⟩
  | x :: L, D, n => by
    obtain ⟨h1, h2, h3⟩ := fold_ok L _ (put_nodup (k := x.1) (v := (look D x.1).getD 0 + x.2) n)
    refine ⟨h1, ?_, fun g => ?_⟩
    · have := put_len D x.1 ((look D x.1).getD 0 + x.2)
      rw [List.length_cons, List.foldl_cons]
      omega
    · rw [List.foldl_cons, h3, put_wt g n]
      unfold wt
      rw [sm_cons]; omega
theorem sums_nodup (L : List (Int × Int)) : ((sums L).map (·.1)).Nodup := (fold_ok L [] .nil).1
theorem sums_len (L : List (Int × Int)) : (sums L).length ≤ L.length := by
  have := (fold_ok L [] .nil).2.1
  rw [List.length_nil, Nat.zero_add] at this
  exact this
theorem sums_wt (L : List (Int × Int)) (g : Int → Int) : wt (sums L) g = wt L g := by
  have := (fold_ok L [] .nil).2.2 g
  rw [show wt [] g = 0 from rfl, Int.zero_add] at this
  exact this
/-- row_of_sums -/
def rowOf (D : List (Int × Int)) : List (Int × Int) := ((srt (D.map (·.1))).map fun k => (k, (look D k).getD 0)).filter fun x => decide (x.2 ≠ 0)
theorem rowOf_row {D : List (Int × Int)} (n : (D.map (·.1)).Nodup) : Row (rowOf D) := by
  refine ⟨?_, fun x hx => of_decide_eq_true (List.mem_filter.mp hx).2⟩
  have s : ((rowOf D).map (·.1)).Sublist (((srt (D.map (·.1))).map fun k => (k, (look D k).getD 0)).map (·.1)) := (List.filter_sublist).map _
  refine List.Pairwise.sublist s ?_
  rw [List.map_map]
  show ((srt (D.map (·.1))).map id).Pairwise _
  rw [List.map_id]
  exact srt_lt n
theorem rowOf_len (D : List (Int × Int)) : (rowOf D).length ≤ D.length := by
  unfold rowOf
  refine Nat.le_trans (List.length_filter_le _ _) ?_
  rw [List.length_map, srt_length, List.length_map]
  exact Nat.le_refl _
theorem rowOf_wt {D : List (Int × Int)} (n : (D.map (·.1)).Nodup) (g : Int → Int) : wt (rowOf D) g = wt D g := by
  unfold wt rowOf
  rw [sm_filter, sm_map, sm_perm (srt_perm _), sm_map]
  · refine sm_congr fun x hx => ?_
    have e : look D x.1 = some x.2 := look_mem n hx
    show g x.1 * ((look D x.1).getD 0) = g x.1 * x.2
    rw [e]; rfl
  · intro x _ h
    have e : x.2 = 0 := by
      have h' := of_decide_eq_false h
      exact Decidable.not_not.mp h'
    show g x.1 * x.2 = 0
    rw [e, Int.mul_zero]
def prodL (A B : List (Int × Int)) : List (Int × Int) := tens A B fun x y => (x.1 + y.1, x.2 * y.2)
def prodRow (A B : List (Int × Int)) : List (Int × Int) := rowOf (sums (prodL A B))
theorem prod_is (A B : List (Int × Int)) : IsProd (prodRow A B) A B 1 := fun g => by
  unfold prodRow
  rw [rowOf_wt (sums_nodup _), sums_wt]
  unfold wt prodL
  rw [sm_tens]
  refine sm_congr fun a _ => sm_congr fun b _ => ?_
  show g (a.1 + b.1) * (a.2 * b.2) = g (a.1 + 1 * b.1) * (a.2 * b.2)
  rw [Int.one_mul]
theorem prod_row (A B : List (Int × Int)) : Row (prodRow A B) := rowOf_row (sums_nodup _)
theorem tens_len {α β γ : Type} (A : List α) (B : List β) (f : α → β → γ) : (tens A B f).length = A.length * B.length := by
  unfold tens
  induction A with
  | nil => simp
  | cons a A ih => rw [List.flatMap_cons, List.length_append, List.length_map, ih, List.length_cons, Nat.succ_mul]; omega
theorem prod_len (A B : List (Int × Int)) : (prodRow A B).length ≤ A.length * B.length := by
  refine Nat.le_trans (rowOf_len _) (Nat.le_trans (sums_len _) ?_)
  unfold prodL
  rw [tens_len]
  exact Nat.le_refl _
end Sg
set_option Elab.async false
set_option linter.all false
set_option maxRecDepth 100000
set_option maxHeartbeats 4000000
/-! Rules that the layer lacks: xs[i] += e, t[::-1], enumerate(t), repr of data, calls by keywords alone, promises that know that nothing is shown around. -/
namespace Sg
open PySem PySem.Spec PyProof.Rows L2
section
variable {X : Cx}
/-! ### xs[i] read for xs[i] += e -/
def rGetL (K : PySem.W.Frag) : V → V → Hp → VK → Prop := fun o i H Q => ∃ p xs, ∃ j : Nat, ∃ v, o = .ref p ∧ i = .int (j : Int) ∧ SqL K H p xs ∧ xs[j]? = some v ∧ Q v H
theorem get_list : PGet X (rGetL X.K) := by
  intro pins s σ H o i ov iv Q I ho hi h
  obtain ⟨p, xs, j, v, rfl, rfl, hS, hv, q⟩ := h
  obtain rfl : ov = .ref p := ho
  obtain ⟨tk, rfl⟩ := hi
  obtain ⟨its, vals, pl, small⟩ := I.list hS
  obtain ⟨u, eu, ru⟩ := vals.get hv
  have h1 : j < xs.length := (List.getElem?_eq_some_iff.mp hv).1
  have h2 := line63
  refine wpAny_getItem_list pl.isList (by omega) (by omega) (x := u) ?_ ⟨v, H, I, ru, q⟩
  rw [Int.toNat_natCast]
  simpa using eu

/-! ### t[::-1] -/
theorem fm_congr {α β : Type} {f g : α → Option β} : ∀ {l : List α}, (∀ x ∈ l, f x = g x) → l.filterMap f = l.filterMap g
  | [], _ => rfl
  | a :: l, h => by
    rw [List.filterMap_cons, List.filterMap_cons, h a (List.mem_cons_self ..), fm_congr fun x hx => h x (List.mem_cons_of_mem _ hx)]
theorem rev_pick (xs : Array Value) : ((List.range xs.size).filterMap fun (m : Nat) => xs[((xs.size : Int) - 1 + (m : Int) * -1).toNat]?) = xs.toList.reverse := by
  have e : (List.range xs.size).filterMap (fun (m : Nat) => xs[((xs.size : Int) - 1 + (m : Int) * -1).toNat]?) = ((List.range xs.size).map fun k => xs.size - 1 - k).filterMap (xs[·]?) := by
    rw [List.filterMap_map]
    refine fm_congr fun m hm => ?_
    have hm := List.mem_range.mp hm
    show xs[((xs.size : Int) - 1 + (m : Int) * -1).toNat]? = xs[xs.size - 1 - m]?
    rw [show ((xs.size : Int) - 1 + (m : Int) * -1).toNat = xs.size - 1 - m by omega]
  rw [e, PySem.W.krv_range, List.filterMap_reverse, PySem.W.krv_all]
section
variable {prog : Program} {w : World} {A : Around} {E : Value → Shared → Prop} {s : Shared}
theorem applied_rev {sl : Addr} {vl vu vs : Value} {n : Nat} {Q : Int × Int × Nat → Shared → Prop} (hs : s.heap.IsSliceOf sl vl vu vs) (pl : IsPart vl none) (pu : IsPart vu none) (ps : IsPart vs (some (-1)))
    (h : Q ((n : Int) - 1, -1, n) s) : wpAny (model prog w) A (Builtin.Slice.sliceApplied (.ref sl) (pure (n : Int))) Q E s := by
  obtain ⟨ob, hob, _, hdat⟩ := id hs
  unfold Builtin.Slice.sliceApplied Builtin.Slice.sliceFields
  refine wpAny_bind (wpAny_bind (wpAny_field hob hdat (x := vl) rfl (wpAny_bind (wpAny_field hob hdat (x := vu) rfl (wpAny_bind (wpAny_field hob hdat (x := vs) rfl (wpAny_pure ?_)))))))
  refine wpAny_bind (HT.slicePart_ ps ?_)
  show wpAny _ _ (if ((-1 : Int) == 0) = true then _ else _) _ _ s
  rw [if_neg (show ¬ ((-1 : Int) == 0) = true by decide)]
  refine wpAny_bind (HT.slicePart_ pl (wpAny_bind (HT.slicePart_ pu (wpAny_bind (wpAny_pure ?_)))))
  have e : Builtin.Slice.slicePlaces ((n : Int) - 1) (-1) (-1) = n := by
    unfold Builtin.Slice.slicePlaces
    rw [if_neg (show ¬ ((-1 : Int) > 0) by decide)]
    split
    · rw [show (- -1 : Int) = 1 by decide, Int.ediv_one]; omega
    · omega
  show wpAny _ _ (pure ((n : Int) - 1, (-1 : Int), Builtin.Slice.slicePlaces ((n : Int) - 1) (-1) (-1))) _ _ s
  rw [e]
  exact wpAny_pure h
theorem item_rev {t sl : Addr} {items : Array Value} {vl vu vs : Value} {Q : Value → Shared → Prop} (ht : IsTup s.heap t items) (hs : s.heap.IsSliceOf sl vl vu vs) (pl : IsPart vl none) (pu : IsPart vu none) (ps : IsPart vs (some (-1)))
    (h : Q (.ref s.heap.objs.size) { s with heap := s.heap.push { cls := .type "tuple", data := .seq items.toList.reverse.toArray } }) (hsz : items.size ≤ sizeLine) : wpAny (model prog w) A (getItem (.ref t) (.ref sl)) Q E s := by
  have ok : sizeOk (.seq items.toList.reverse.toArray) := by
    show items.toList.reverse.toArray.size ≤ sizeLine
    rw [List.size_toArray, List.length_reverse, Array.length_toList]
    exact hsz
  have isS : s.TypeIs (.ref sl) "slice" := let ⟨ob, h1, h2, _⟩ := hs; ⟨ob, h1, h2⟩
  unfold getItem
  try with_reducible refine wpAny_holding ?_
  first | refine wpAny_bind (wpAny_pure ?_) | skip
  refine wpAny_bind (wpAny_sequenceKey ht.typeIs (by decide) ?_)
  refine wpAny_bind (wpAny_callSpecial?_slot (name := Str.ofString "__getitem__") ht.typeIs PyProof.Rows.slot_tuple_getitem (wpAny_call_entry PyProof.Rows.slot_tuple_getitem ht.typeIs entry_tuple_getitem ?_ (args_tuple_getitem _ _)))
  show wpAny _ _ (Builtin.Tuple.tupleItemsOf (.ref t) >>= _) _ _ s
  refine wpAny_bind (tupleItemsOf_ ht (wpAny_bind (wpAny_typeOf isS ?_)))
  rw [if_pos (by decide)]
  refine wpAny_bind (applied_rev hs pl pu ps ?_)
  show wpAny _ _ (if (((items.size : Int) - 1) == 0 && (-1 : Int) == 1 && items.size == items.size) = true then _ else _) _ _ s
  rw [if_neg (by simp), rev_pick]
  first
    | exact wpAny_bind (m := Builtin.Tuple.tupleExact _) (wpAny_newObj_type (wpAny_pure ⟨_, rfl, wpAny_pure h⟩) ok)
    | exact wpAny_bind (m := Builtin.Tuple.tupleExact _) (wpAny_newObj_type (wpAny_bind (wpAny_pure (wpAny_pure ⟨_, rfl, wpAny_pure h⟩))) ok)
    | exact wpAny_bind (wpAny_bind (m := Builtin.Tuple.tupleExact _) (wpAny_newObj_type (wpAny_pure (wpAny_pure ⟨_, rfl, wpAny_pure h⟩)) ok))
    | exact wpAny_bind (wpAny_bind (m := Builtin.Tuple.tupleExact _) (wpAny_newObj_type (wpAny_pure ⟨_, rfl, wpAny_pure h⟩) ok))
end
def tRevT (K : PySem.W.Frag) (te : TE) : TE := fun σ H Q => te σ H fun x H1 => ∃ a xs, x = .ref a ∧ SqT K H1 a xs ∧ ∀ p, H1 p = none → Q (.ref p) (upd H1 p (.tup xs.reverse))
theorem pe_revT {e : Expr} {te : TE} {k : Nat} {p1 p2 p3 pos : Pos} (he : PE X e te) : PE X (.Subscript e (.Slice none none (some (.UnaryOp .USub (.Constant (.int 1) k p1) p2)) p3) pos) (tRevT X.K te) := by
  constructor
  intro pins s σ H Q I h
  have minus : PO X (some (.UnaryOp .USub (.Constant (.int 1) k p1) p2)) (tPart (tUn (rU fun i => .int (-i)) (tC (.int 1)))) := po_some (pe_un un_neg pe_int)
  refine Subscript_ (thn (he.run pins s σ H _ I h) fun v s1 hv => ?_)
  obtain ⟨_, H1, I1, rv, a, xs, rfl, hT, q⟩ := hv
  obtain rfl : v = .ref a := rv
  refine wpAny_Slice (thn (po_none.run pins s1 σ H1 (fun o J => o = none ∧ J = H1) I1 ⟨rfl, rfl⟩) fun vl s2 h2 => ?_)
  obtain ⟨_, _, I2, pl, rfl, rfl⟩ := h2
  refine thn (po_none.run pins s2 σ _ (fun o J => o = none ∧ J = _) I2 ⟨rfl, rfl⟩) fun vu s3 h3 => ?_
  obtain ⟨_, _, I3, pu, rfl, rfl⟩ := h3
  refine thn (minus.run pins s3 σ _ (fun o J => o = some (-1) ∧ J = _) I3 ⟨1, rfl, -1, rfl, rfl, rfl⟩) fun vs s4 h4 => ?_
  obtain ⟨_, _, I4, ps, rfl, rfl⟩ := h4
  have I5 := I4.kept (h' := s4.heap.push { cls := .type "slice", data := .fields #[vl, vu, vs] }) (t' := s4.toks) fun b ob z => Heap.get?_push_of_some _ z
  obtain ⟨its, r, ht, hz⟩ := I5.tuple hT
  have hl := r.length
  refine tail_any (s := { s4 with heap := s4.heap.push { cls := .type "slice", data := .fields #[vl, vu, vs] } }) (ops := [.ref a, .ref s4.heap.objs.size]) ht.typeIs (PyProof.Rows.slot_tuple_getitem.lookup) ?_ (by with_unfolding_all rfl)
  refine item_rev ht (Heap.IsSliceOf.new _ vl vu vs) pl pu ps ?_ (by rw [List.size_toArray]; omega)
  refine ⟨.ref _, _, I5.laid (t' := s4.toks) (o := .tup xs.reverse) (fun b ob z => Heap.get?_push_of_some _ z) (Nat.le_refl _) ?_, rfl, q _ (I5.hok.fresh (Nat.le_refl _))⟩
  exact ⟨by rw [List.length_reverse]; exact hz, _, r.reverse, IsTup.new _ _⟩

/-! ### enumerate(t), t a tuple -/
end
theorem meets_enum1 {v : Value} {o : Obj} {H : Heap → Prop} (B : Begins v o H) :
    Meets (Builtin.«enumerate.__new__» ⟨[.type "enumerate", v], []⟩) (fun _ R s => H s.heap ∧
      R (.ok (.ret (.ref (s.heap.push o).objs.size))) { s with heap := (s.heap.push o).push { cls := .type "enumerate", data := .fields #[.none, .bool false, .ref s.heap.objs.size, rawInt 0, .none, .none] } }) := by
  refine .of_wp fun prog w A R s h => ?_
  obtain ⟨hp, gens, drawn, toks, os⟩ := s
  obtain ⟨hH, h⟩ := h
  have low := sub_enumerate
  have it : ∀ {A' : Around} {E Q : Value → Shared → Prop}, Q (.ref hp.objs.size) ⟨hp.push o, gens, drawn, toks, os⟩ → wpAny (model prog w) A' (pyIter v) Q E ⟨hp, gens, drawn, toks, os⟩ := fun z => B.iter prog w _ _ _ _ hH z
  wp_walk using it
  refine wpAny_stack_any fun st => wpAny_pure ?_
  split
  · rename_i c _ _ _ _ _
    cases hc : (c == Value.type "enumerate") <;> (wp_walk using it; exact ⟨_, rfl, h⟩)
  · wp_walk using it
    exact ⟨_, rfl, h⟩
theorem call_enum_tup {prog : Program} {w : World} {A : Around} {E : Value → Shared → Prop} {s : Shared} {t : Addr} {items : Array Value} {Q : Value → Shared → Prop} (ht : s.heap.IsTuple t items)
    (h : ∀ h', IsEnum h' (s.heap.objs.size + 1) s.heap.objs.size 0 .none → h'.IsTupleIter s.heap.objs.size t 0 → (∀ b o, s.heap.get? b = some o → h'.get? b = some o) → Q (.ref (s.heap.objs.size + 1)) { s with heap := h' }) :
    wpAny (model prog w) A (call (.type "enumerate") [.ref t]) Q E s := by
  refine callType_new F.called_enumerate (by decide) (F.typeCall_enumerate_1 _) (F.newCall_enumerate_1 _) (fun obj => F.args_object_init_2 obj _) F.entry_enumerate_new (meets_enum1 (begins_tuple t items)) ⟨ht, ?_⟩
  have size : (s.heap.push { cls := .type "tuple_iterator", data := .fields #[.ref t, .int 0 0] }).objs.size = s.heap.objs.size + 1 := Heap.size_push ..
  have en := Heap.get?_push_size (s.heap.push { cls := .type "tuple_iterator", data := .fields #[.ref t, .int 0 0] }) (o := { cls := .type "enumerate", data := .fields #[.none, .bool false, .ref s.heap.objs.size, rawInt 0, .none, .none] }) rfl
  show _ ∧ _
  rw [size] at en ⊢
  exact ⟨⟨_, en, rfl⟩, h _ en ⟨_, Heap.get?_push_of_some _ (Heap.get?_push_size _ rfl), rfl, rfl⟩ fun b o z => Heap.get?_push_of_some _ (Heap.get?_push_of_some _ z)⟩
theorem tup_end {prog : Program} {w : World} {A : Around} {E : Value → Shared → Prop} {s : Shared} {e it a : Addr} {i : Nat} {old : Value} {items : Array Value} {Q : Option Value → Shared → Prop} (hh : A.handled = none) (he : IsEnum s.heap e it ((i : Nat) : Int) old) (hit : s.heap.IsTupleIter it a i)
    (ht : s.heap.IsTuple a items) (hl : items.size ≤ i) (hQ : ∀ h', Heap.ExtBut it s.heap h' → Q none { s with heap := h' }) : wpAny (model prog w) A (pyNext (.ref e)) Q E s := by
  have isE : s.TypeIs (.ref e) "enumerate" := ⟨_, he, rfl⟩
  unfold pyNext
  refine wpAny_bind (wpAny_attempt (wpAny_callSpecial?_slot (name := Str.ofString "__next__") isE F.slot_enumerate_next (wpAny_call_entry F.slot_enumerate_next isE F.entry_enumerate_next ?_ (F.args_enumerate_next_1 _))))
  show wpAny _ _ (field (.ref e) 2 >>= _) _ _ _
  refine wpAny_bind (wpAny_field he rfl (x := .ref it) rfl ?_)
  refine wpAny_bind (wpAny_nextOf_tuple_end (A := A.in1) hh hit ht (Array.getElem?_eq_none hl) fun h' x k hx => ?_)
  obtain ⟨o, ho, hc⟩ := hx
  exact wpAny_bind (wpAny_isInstance (T := "StopIteration") (b := true) ⟨o, ho, hc⟩ isSubtype_stop (wpAny_pure (hQ _ k)))
/-- the tuple at a, item by item, each in a new pair with its number -/
def Itet (K : PySem.W.Frag) (a : Addr) : It where
  go := fun i H => ∃ (xs : List V) (x : V), SqT K H a xs ∧ xs[i]? = some x
  yld := fun i H v H' => ∃ T x, v = .ref T ∧ H T = none ∧ H' = upd H T (.tup [.int (i : Nat), x]) ∧ ∀ xs, SqT K H a xs → xs[i]? = some x
  stop := fun i H => ∃ xs : List V, SqT K H a xs ∧ xs.length ≤ i
theorem turn_enumT {P : Program} {w : World} {K : PySem.W.Frag} {elts : List Expr} {kk : Nat} {tpos : Pos} (a e it : Addr) :
    Turn P w K (.Tuple elts kk tpos) (Itet K a) [e, it] e (fun i h => (∃ old, IsEnum h e it ((i : Nat) : Int) old) ∧ h.IsTupleIter it a i ∧ e ≠ it) := by
  -- the iterator isn't the tuple
  have apart : ∀ {h : Heap} {i : Nat} {items : Array Value}, h.IsTupleIter it a i → h.IsTuple a items → a ≠ it := by
    rintro h i items ⟨o, ho, hc, _⟩ ⟨o', ho', hc', _⟩ rfl
    rw [ho] at ho'
    cases ho'
    rw [hc] at hc'
    exact absurd hc' (by decide)
  refine ⟨by simp, ?_, ?_, ?_, ?_, ?_⟩
  · rintro i h ⟨⟨old, he⟩, ⟨o, ho, _, hd⟩, _⟩ b hb
    rcases List.mem_cons.mp hb with rfl | hb
    · exact ⟨_, he, fun v z => nomatch z⟩
    · obtain rfl := List.mem_singleton.mp hb
      exact ⟨o, ho, fun v z => by rw [hd] at z; cases z⟩
  · rintro i h h' ⟨⟨old, he⟩, hi, h1⟩ k
    exact ⟨⟨old, k e (by simp) _ he⟩, hi.at fun o z => k it (by simp) o z, h1⟩
  · intro X hP hw hK hc i pins s σ H E I hf st hg
    subst hP hw hK
    obtain ⟨⟨old, he⟩, hit, ne⟩ := st
    obtain ⟨xs, x, hq, hx⟩ := hg
    obtain ⟨its, rv, tp, hz⟩ := I.tuple hq
    obtain ⟨u, hu, ru⟩ := rv.get hx
    have hlt : i < its.toArray.size := by
      rw [List.size_toArray]
      exact (List.getElem?_eq_some_iff.mp hu).1
    have D := Draws.tuple (prog := X.prog) (w := X.w) (A := X.A.in1) (I.ok.hd hc) it a (apart hit tp) its.toArray
    -- what turns: e and the iterator alone; e isn't the tuple
    have nea : a ≠ e := by
      rintro rfl
      obtain ⟨o', ho', hc', _⟩ := tp
      have he' : s.heap.get? a = some _ := he
      rw [he'] at ho'
      cases ho'
      exact absurd (show Value.type "enumerate" = Value.type "tuple" from hc') (by decide)
    refine wpAny_pyNext_enum_itemD D he ⟨hit, tp⟩ hlt ne (by simp [ne, Ne.symm nea]) fun y h' tk hP ho hst hT hsz hk => ?_
    have ey : y = u := by
      have h1 : its.toArray[i]? = some u := by simpa using hu
      have h2 : its.toArray[i]? = some y := hP
      rw [h1] at h2
      exact (Option.some.inj h2).symm
    subst ey
    have el : e < s.heap.objs.size := Heap.lt_size he
    have il : it < s.heap.objs.size := let ⟨_, z, _⟩ := hit; Heap.lt_size z
    refine ⟨_, rfl, wpAny_letOwnedTupleGo_enum (s := { s with heap := h', toks := tk + 1 }) ho fun h2 he2 sb => ?_⟩
    have hT2 : h2.get? s.heap.objs.size = some { cls := .type "tuple", data := .seq #[.int i tk, y] } := (sb.2 _ (Nat.ne_of_gt el)).trans hT
    have I1 : Inv X pins σ (upd H s.heap.objs.size (.tup [.int (i : Nat), x])) { s with heap := h2, toks := tk + 1 } :=
      I.turnedNew (ch := [e, it]) (fun b ob hb z => (sb.2 b (fun q => hb (by simp [q]))).trans (hk b ob (fun q => hb (by simp [q])) (fun q => hb (by simp [q])) z)) hf (Nat.le_refl _)
        ⟨by show 2 ≤ sizeLine; decide, [.int i tk, y], .cons ⟨_, rfl⟩ (.cons ru .nil), ⟨_, hT2, rfl, _, rfl⟩⟩
    refine ⟨.ref s.heap.objs.size, _, I1, rfl, ⟨_, x, rfl, I.hok.fresh (Nat.le_refl _), rfl, fun ys hy => by rw [I.tuple_inj hy hq]; exact hx⟩, ⟨⟨y, ?_⟩, hst.1.at fun o z => (sb.2 it (Ne.symm ne)).trans z, ne⟩, fun b hb => ?_⟩
    · rw [show ((i + 1 : Nat) : Int) = (i : Int) + 1 by omega]
      exact he2
    · have lt : b < s.heap.objs.size := by
        rcases List.mem_cons.mp hb with rfl | hb
        · exact el
        · obtain rfl := List.mem_singleton.mp hb
          exact il
      rw [upd_ne (Nat.ne_of_lt lt)]
      exact (hf b hb).1
  · intro X hP hw hK hc i pins s σ H E I hf st hg
    subst hP hw hK
    obtain ⟨⟨old, he⟩, hit, ne⟩ := st
    obtain ⟨xs, hq, hx⟩ := hg
    obtain ⟨its, rv, tp, hz⟩ := I.tuple hq
    obtain ⟨f0, f1, f2, f3, f4, f5⟩ := hf it (by simp)
    have hl := rv.length
    refine tup_end (I.ok.hd hc) he hit tp (by rw [List.size_toArray]; omega) fun h' eb => ⟨rfl, I.turned (t' := s.toks) (fun b o hb z => eb b o hb z) f0 f1 f3 f4 f5⟩
  · rintro A i s Q E ⟨⟨_, he⟩, _⟩ h
    exact wpAny_pyIter_enum he h
def iEnumT (K : PySem.W.Frag) (ta : TA) : TI := fun σ H R => ta σ H fun vs H1 => ∃ a xs, vs = [.ref a] ∧ SqT K H1 a xs ∧ R (Itet K a) H1
theorem pi_enumT {X : Cx} {e : Expr} {ta : TA} {p pos tpos : Pos} {elts : List Expr} {kk : Nat} (hg : Gl X "enumerate") (hm : X.mg "enumerate" = none) (ha : PA X [e] ta) (hs : starEach [e] X.env = [(false, eval e X.env)] := by rfl) :
    PI X (.Tuple elts kk tpos) (.Call (.Name "enumerate" p) [e] [] pos) (iEnumT X.K ta) := by
  constructor
  intro pins s σ H R I h
  refine Call_ (ld_blt I hg hm boot_enumerate (PyProof.Rows.callWith_type1 (thn (ha.run pos pins s σ H _ I h) fun us s1 hv => ?_) hs rfl))
  obtain ⟨_, H1, I1, r, a, xs, rfl, hq, q⟩ := hv
  obtain ⟨u, rfl, ru⟩ := vals1 r
  obtain rfl : u = .ref a := ru
  obtain ⟨its, rv, tp, hz⟩ := I1.tuple hq
  refine call_enum_tup tp fun h' he hit hk => wpAny_pyIter_enum he ?_
  have I2 := I1.kept (t' := s1.toks) hk
  refine ⟨s1.heap.objs.size + 1, [s1.heap.objs.size + 1, s1.heap.objs.size], _, _, H1, rfl, I2, turn_enumT a (s1.heap.objs.size + 1) s1.heap.objs.size, ⟨⟨.none, he⟩, hit, Nat.succ_ne_self _⟩, fun b hb => ?_, q⟩
  have le : s1.heap.objs.size ≤ b := by
    rcases List.mem_cons.mp hb with rfl | hb
    · exact Nat.le_succ _
    · rw [List.mem_singleton.mp hb]
      exact Nat.le_refl _
  exact I1.fpOk le (I1.hok.fresh le)
/-- a walk over enumerate(t) that leaves the tuple as it is -/
theorem for_enumT {K : PySem.W.Frag} {a : Addr} {xs : List V} {g : TG} {tb : TS} {D : Ends} {σ : L2.St} {H : Hp} (Pv : Nat → L2.St → Hp → Prop) (h0 : Pv 0 σ H) (hl : ∀ i σ H, i ≤ xs.length → Pv i σ H → SqT K H a xs)
    (hs : ∀ i x σ H T, xs[i]? = some x → Pv i σ H → H T = none → g (.ref T) σ (upd H T (.tup [.int (i : Nat), x])) fun σ2 H2 => tb { D with nx := Pv (i + 1), ct := Pv (i + 1), bk := D.nx } σ2 H2) (hd : ∀ σ H, Pv xs.length σ H → D.nx σ H) :
    ∃ W : Nat → Nat → L2.St → Hp → Prop, (∃ m, W 0 m σ H) ∧ ∀ i m σ H, W i m σ H →
      ((Itet K a).stop i H ∧ D.nx σ H) ∨ ((Itet K a).go i H ∧ ∃ N : L2.St → Hp → Prop, (∀ σ' H', N σ' H' → ∃ m', m' < m ∧ W (i + 1) m' σ' H') ∧ ∀ x H', (Itet K a).yld i H x H' → g x σ H' fun σ2 H2 => tb { D with nx := N, ct := N, bk := D.nx } σ2 H2) := by
  refine ⟨fun i m σ H => m + i = xs.length ∧ Pv i σ H, ⟨xs.length, by omega, h0⟩, ?_⟩
  rintro i m σ H ⟨hm, p⟩
  have q := hl i σ H (by omega) p
  by_cases hlt : i < xs.length
  · refine .inr ⟨⟨xs, xs[i], q, List.getElem?_eq_getElem hlt⟩, Pv (i + 1), fun σ' H' p' => ⟨m - 1, by omega, by omega, p'⟩, ?_⟩
    rintro x H' ⟨T, y, rfl, hT, rfl, hy⟩
    exact hs i y σ H T (hy xs q) p hT
  · obtain rfl : i = xs.length := by omega
    exact .inl ⟨⟨xs, q, Nat.le_refl _⟩, hd σ H p⟩

/-! ### repr of data, where nothing is shown around -/
section
variable {X : Cx}
def rRepr (K : PySem.W.Frag) : List V → Hp → VK → Prop := fun xs H Q => ∃ a d, xs = [.ref a] ∧ Dp K H (.ref a) d ∧ d.showable = true ∧ d.hasDict = false ∧ d.depth ≤ 60 ∧ d.shown.length ≤ sizeLine ∧ Q (.str d.shown) H
theorem call_repr (hG : X.A.guards = some []) (hu : X.A.units + 64 < cLine) : CallR X (.builtin "repr") (rRepr X.K) := by
  intro pins s σ H xs us Q I r h
  obtain ⟨a, d, rfl, hd, sh, nd, dp, sz, q⟩ := h
  obtain ⟨u, rfl, ru⟩ := vals1 r
  obtain rfl : u = .ref a := ru
  obtain ⟨as, rd⟩ := Dp.reads I d _ _ hd rfl
  refine repr_of_reads' rd sh (PyData.noDict_hsm nd) hG (by omega) (fun _ _ z => z) (fun h' t tk hk => ?_) sz
  exact ⟨.str d.shown, H, I.kept hk, ⟨t, rfl⟩, q⟩
end

/-! ### a call by keywords alone -/
section
variable {X : Cx} {CX : CXT} {k : Nat} {f : Addr} {fd : FuncData} {ps ks : List Str} {sp : Sp} {E : XK} {x : Str} {p pos : Pos} {kws : List Keyword} {tk : TA} {g : List Value → List Value → List Value} {gV : List V → List V → List V}
theorem pe_kwOnly (F : FnOk X.prog X.w X.K X.mg X.base CX k f fd ps sp) (hr : Room k X.A) (hg : Gl X x) (hm : X.mg x = some (.ref f)) (hk : PySem.W.keepIn X.K (.ref f) = true) (hb : KBn X.K fd ps 0 ks g gV) (hx : Passes CX X E)
    (hkw : PK X kws tk) (hall : (backToKw pos (keywordEach kws X.env)).all (·.1.isSome) = true := by rfl) (hks : (backToKw pos (keywordEach kws X.env)).filterMap (·.1) = ks := by rfl)
    (hdb : (x == ("__debug__" : Str)) = false := by decide) (hpl : ((backTo pos (starEach [] X.env)).any (·.1) || (backToKw pos (keywordEach kws X.env)).any (·.1.isNone)) = false := by rfl) :
    PE X (.Call (.Name x p) [] kws pos) (tCallN 0 ks.length sp gV E tNil tk) := by
  constructor
  intro pins s σ H Q I h
  refine wpAny_Call_Name_kw (ld_glob I hg hm (PySem.W.callWith_KW0 (h₀ := X.base) I.ok.mod.kin hk hall (thn (hkw.run pos pins s σ H _ I h) fun ws s2 hv => ?_) hpl) hdb)
  obtain ⟨zs, H2, I2, rz, l1, l2, q⟩ := hv
  rw [hks]
  exact ⟨I2.kIn, run_fnN (us := []) (vs := []) F hr hb hx I2 .nil rz l1 l2 q⟩
end

/-! ### promises that are kept where nothing is shown around (repr asks it) -/
structure FnG (P : Program) (w : World) (K : PySem.W.Frag) (mg : Str → Option Value) (base : Heap) (k : Nat) (f : Addr) (fd : FuncData) (ps : List Str) (sp : Sp) : Prop where
  len : ∀ vs H Q E, sp vs H Q E → vs.length = ps.length
  go : ∀ (A : Around), A.guards = some [] → Room k A → ∀ (outer : List Env) (s : Shared) (H : Hp) (args : Args) (us : List Value) (vs : List V) (Q : VK) (E : XK), Env0 P w K mg base A outer s H → BindsTo s fd args (ps.zip us) → Vals vs us → sp vs H Q E →
    codeAny (model P w) A (.call (.ref f) args) (CR CX0 outer P w H s Q E) s
section
variable {P : Program} {w : World} {K : PySem.W.Frag} {mg : Str → Option Value} {base : Heap} {k : Nat} {f : Addr} {fd : FuncData} {sp : Sp}
theorem Fun.okG {x qual : Str} {st : Stmt} {N ps : List Str} (F : Fun K x qual st f fd) (S : FnScope N ps (defScope st)) (len : ∀ vs H Q E, sp vs H Q E → vs.length = ps.length)
    (hbody : ∀ (cdv : Value) (A : Around) (outer : List Env) (s : Shared) (H : Hp) (vs : List V) (Q : VK) (E : XK), A.guards = some [] → Room k (A.deeper (envOfC qual (defScope st) s.heap.objs.size f cdv)) → sp vs H Q E →
      ∃ t, PSs (cxOf CX0 P w K mg base N qual (defScope st) f cdv A outer s H E).nox (defBody st) t ∧ t { nx := fun _ H' => Q .non H', rt := Q } (start N vs) H) : FnG P w K mg base (k + 1) f fd ps sp := by
  obtain ⟨oc, od, kV, doc, pm, an, cdv, ct, osl, rfl, lk, code⟩ := F.ex
  refine ⟨len, fun A hG hr outer s H args us vs Q E e0 hb rv hsp => ?_⟩
  have stays : ∀ b o, base.get? b = some o → s.heap.get? b = some o := fun b o z => (e0.bs b o z).1
  have KX := e0.mod.kin.keeps stays
  have places : ∀ y ∈ ps.zip us, (defScope st).names.lookup y.1 = some .local ∨ ((defScope st).names.lookup y.1 = some .cell ∧ ((cellsFrom (s.heap.objs.size + 1) (defScope st).names []).lookup y.1).isSome = true) := by
    rintro ⟨n, v⟩ hy
    exact (S.par n (List.of_mem_zip hy).1).imp id fun z => ⟨z, PySem.W.cellsFrom_some _ _ _ (.inl z)⟩
  refine codeAny_call_function hr.depth (KX _ _ lk) rfl S.co S.gen rfl (PySem.W.codeRec_of KX code) (hb _ _ _ _ ?_)
  refine wpAny_newFunctionEnv_cells S.kind places fun env henv s1 call => ?_
  subst henv
  refine ⟨(e0.mod.nolimit.keeps stays).keeps call.toInCall.keep, codeAny_func ?_⟩
  obtain ⟨t, ht, hq⟩ := hbody cdv A outer s H vs Q E hG (hr.deeper _) hsp
  have I := inv_start (CX := CX0) (E := E) S hr.hd e0 (len _ _ _ _ hsp) rv call
  refine wpAny_mono (ht.nox.run [] s1 _ H _ I hq) (fun fl s2 hs => ?_) fun _ _ z => z
  cases fl with
  | ret u => exact let ⟨v, _, H2, J, ru, q⟩ := hs; ⟨v, H2, J.os, J.bare, J.base, J.hok, ru, q⟩
  | next => exact let ⟨_, H2, J, q⟩ := hs; ⟨V.non, H2, J.os, J.bare, J.base, J.hok, rfl, q⟩
  | brk => exact let ⟨_, _, _, q⟩ := hs; False.elim q
  | cont => exact let ⟨_, _, _, q⟩ := hs; False.elim q
end
section
variable {X : Cx} {k : Nat} {f : Addr} {fd : FuncData} {ps : List Str} {sp : Sp} {x : Str} {p pos : Pos} {e : Expr} {es : List Expr} {t : TA}
theorem pe_callG (F : FnG X.prog X.w X.K X.mg X.base k f fd ps sp) (hG : X.A.guards = some []) (hr : Room k X.A) (hg : Gl X x) (hm : X.mg x = some (.ref f)) (hk : PySem.W.keepIn X.K (.ref f) = true) (hb : Binds X.K fd ps [])
    (ha : PA X (e :: es) t) (hdb : (x == ("__debug__" : Str)) = false := by decide) (he : starEach (e :: es) X.env = (false, eval e X.env) :: starEach es X.env := by rfl) (hpl : (backTo pos (starEach es X.env)).any (·.1) = false := by rfl) :
    PE X (.Call (.Name x p) (e :: es) [] pos) (fun σ H Q => t σ H fun vs H1 => sp vs H1 Q E0) := by
  constructor
  intro pins s σ H Q I h
  refine wpAny_Call_Name_kw (ld_glob I hg hm (PySem.W.callWith_K (h₀ := X.base) I.ok.mod.kin hk (thn (ha.run pos pins s σ H _ I h) fun us s1 hv => ?_) he hpl) hdb)
  obtain ⟨vs, H1, I1, r, q⟩ := hv
  refine ⟨I1.kIn, ?_⟩
  have hl : (us ++ []).length = ps.length := by
    rw [List.append_nil, ← r.length]
    exact F.len _ _ _ _ q
  have hz := hb s1 us I1.kIn hl
  rw [List.append_nil] at hz
  refine wpAny_call (codeAny_mono (F.go X.A hG hr X.stack s1 H1 ⟨us, []⟩ us vs Q E0 I1.env0 hz r q) fun r2 s2 hq => ?_)
  cases r2 with
  | error z => exact False.elim hq
  | ok fl =>
    cases fl with
    | ret u => exact I1.after hq
    | next => exact False.elim hq
    | brk => exact False.elim hq
    | cont => exact False.elim hq
end

/-! ### sorted(d), the keys whole numbers, fewer than 64 -/
theorem ints_by {us : List Value} : ∀ {ns : List Int}, us.length = ns.length → (∀ (j : Nat) (v : Value) (n : Int), us[j]? = some v → ns[j]? = some n → ∃ t : Tok, v = Value.int n t) → IntsAre us ns := by
  induction us with
  | nil =>
    intro ns hl _
    cases ns with
    | nil => exact .nil
    | cons n ns => simp at hl
  | cons u us ih =>
    intro ns hl h
    cases ns with
    | nil => simp at hl
    | cons n ns =>
      obtain ⟨t, rfl⟩ := h 0 u n rfl rfl
      exact .cons _ _ (ih (by simpa using hl) fun j v m a b => h (j + 1) v m (by simpa using a) (by simpa using b))
section
variable {X : Cx}
def rSortedD : List V → Hp → VK → Prop := fun xs H Q => ∃ (a : Addr) (kvs : List (Key × V)) (ns : List Int), xs = [.ref a] ∧ Rd H a (.dK kvs) ∧ kvs.map (·.1) = ns.map Sum.inl ∧ ns.length < 64 ∧
  ∀ (ys : List Int) (p : Addr), ys.Perm ns → ys.Pairwise (· ≤ ·) → H p = none → Q (.ref p) (upd H p (.lst (ys.map V.int)))
theorem call_sortedI (calm : X.calm = true) : CallR X (.builtin "sorted") rSortedD := by
  intro pins s σ H xs us Q I r h
  obtain ⟨d, kvs, ns, rfl, hd, hk, h64, q⟩ := h
  obtain ⟨u, rfl, ru⟩ := vals1 r
  obtain rfl : u = .ref d := ru
  obtain ⟨_, lo, vs, rel, tab⟩ := dk_rd I.hok hd
  obtain ⟨ep, hat⟩ := tab.dictAt
  have keys : vs.map (·.1) = ns.map Sum.inl := rel.keys.symm.trans hk
  have len : vs.length = ns.length := by simpa using congrArg List.length keys
  refine Calls.call_function_entry PyProof.Rows.kind_sorted PyProof.Rows.plain_sorted PyProof.Rows.entry_sorted (PyProof.Rows.args_sorted1 _) ?_
  unfold Builtin.«sorted»
  refine wpAny_bind (m := checkCount "sorted" 1 1 _) (wpAny_pure (wpAny_bind ?_))
  refine PySem.W.kdu_collect (A := X.A.in1) (PySem.W.kdl_dict (knd := mixKind X.prog X.w) (kvs := vs) (ep := ep) lo) (I.ok.hd calm) hat (by rw [sizeLine_eq]; omega) fun h' tk acc kept items => ?_
  have alen : acc.toList.length = ns.length := by rw [Array.length_toList, items.1, len]
  have hI : IntsAre acc.toList ns := ints_by alen fun j v n a b => by
    obtain ⟨k, x, e1, e2⟩ := items.2 j v (by rw [← Array.getElem?_toList]; exact a)
    have e3 : (vs.map (·.1))[j]? = some k := by rw [List.getElem?_map, e1]; rfl
    rw [keys, List.getElem?_map, b] at e3
    obtain rfl : Sum.inl n = k := Option.some.inj e3
    exact Value.isInt_shape (k := n) (v := v) e2
  have I1 : Inv X pins σ H { s with heap := h', toks := tk } := I.kept kept
  refine wpAny_bind (wpAny_newList ?_ (by rw [alen, sizeLine_eq]; omega))
  have lst : (h'.push (seqObj "list" acc.toList.toArray 0)).get? h'.objs.size = some (seqObj "list" acc.toList.toArray 0) := Heap.get?_push_size _ rfl
  refine wpAny_bind (wpAny_holding (wpAny_call_entry (s := { s with heap := h'.push (seqObj "list" acc.toList.toArray 0), toks := tk }) PyProof.Rows.slot_list_sort ⟨_, lst, rfl⟩ PyProof.Rows.entry_list_sort
    (list_sort_tree (s := { s with heap := h'.push (seqObj "list" acc.toList.toArray 0), toks := tk }) lst hI (by rw [alen]; exact h64) fun out ys hy perm up => ⟨_, rfl, ?_⟩) (PyProof.Rows.args_list_sort _)))
  obtain ⟨e, at_⟩ := PyProof.Rows.sortedHeap_at (vs := acc.toList) (out := out) lst
  have small : (ys.map V.int).length ≤ sizeLine := by
    rw [List.length_map, perm.length_eq, sizeLine_eq]
    omega
  have I2 := I1.laid (t' := tk) (a := h'.objs.size) (o := .lst (ys.map V.int)) (h' := sortedHeap (h'.push (seqObj "list" acc.toList.toArray 0)) h'.objs.size acc.toList out) (fun b u hb => by
    have lt : b < h'.objs.size := Heap.lt_size hb
    rw [PyProof.Rows.sortedHeap_old (Nat.ne_of_lt lt) (by rw [size_push']; exact Nat.lt_succ_of_lt lt)]
    exact Heap.get?_push_of_some _ hb) (Nat.le_refl _) ⟨small, out.toList, e, vals_of_ints hy, by rw [Array.toArray_toList]; exact at_⟩
  exact wpAny_pure ⟨_, rfl, .ref h'.objs.size, _, I2, rfl, q ys _ perm up (I1.hok.fresh (Nat.le_refl _))⟩
end
end Sg
set_option Elab.async false
set_option linter.all false
set_option maxRecDepth 100000
set_option maxHeartbeats 4000000
/-! The law's own call, where its promise knows that nothing is shown around. -/
namespace Sg
open PySem PySem.Spec PyProof.Rows L2
/-- what is tracked at the entry: the script, unless it is the module's own -/
def atEntry (K : PySem.W.Frag) (a : Addr) (vs : List Value) (ns : List Int) : Hp := fun b => if b = a ∧ K.lookup a = none then some (.frz { cls := .type "list", data := .seq vs.toArray } (.lst (ns.map V.int))) else none
section
variable {P : Program} {w : World} {K : PySem.W.Frag} {mg mb : Str → Option Value} {k : Nat} {fa a : Addr} {fd : FuncData} {x : Str} {sp : Sp} {s : Shared} {vs : List Value} {ns : List Int}
theorem entry_some {b : Addr} {u : HO} (h : atEntry K a vs ns b = some u) : b = a ∧ K.lookup a = none ∧ u = .frz { cls := .type "list", data := .seq vs.toArray } (.lst (ns.map V.int)) := by
  unfold atEntry at h
  split at h
  · rename_i c
    exact ⟨c.1, c.2, (Option.some.inj h).symm⟩
  · cases h
theorem entry_ok (ha : s.heap.get? a = some { cls := .type "list", data := .seq vs.toArray }) (rv : Vals (ns.map V.int) vs) (hl : ns.length ≤ sizeLine) : HOk P w (atEntry K a vs ns) s.heap := fun b u h => by
  obtain ⟨rfl, _, rfl⟩ := entry_some h
  exact ⟨ha, by rw [List.length_map]; exact hl, vs, _, rv, ha⟩
theorem entry_list (KX : K.In s.heap) (ha : s.heap.get? a = some { cls := .type "list", data := .seq vs.toArray }) (rv : Vals (ns.map V.int) vs) (hl : ns.length ≤ sizeLine) : SqL K (atEntry K a vs ns) a (ns.map V.int) := by
  cases hk : K.lookup a with
  | none => exact .inl (.inr ⟨_, if_pos ⟨rfl, hk⟩⟩)
  | some o =>
    have z := KX a o hk
    rw [ha] at z
    cases z
    have e := rv.length
    rw [List.length_map] at e
    exact .inr ⟨_, vs.toArray, _, hk, rfl, rfl, rfl, by rw [List.size_toArray]; omega, by simpa using rv⟩
/-- the call of the law's def gives True and leaves what stood -/
theorem enterG (KX : K.In s.heap) (hns : s.heap.Ns mainGlobals mg) (hb : s.heap.Ns builtinsNs mb) (hbb : ∀ x : Str, x ≠ "__name__" → mb x = bootBuiltins x) (hlim : s.heap.NoLimit) (hg : s.gens = #[])
    (ha : s.heap.get? a = some { cls := .type "list", data := .seq vs.toArray }) (hi : IntsAre vs ns) (hl : ns.length ≤ sizeLine) (hr : Room k callerA)
    (F : ∀ base : Heap, K.In base → base.Ns mainGlobals mg → FnG P w K mg base k fa fd [x] sp) (hbind : ∀ (s : Shared) (u : Value), BindsTo s fd ⟨[u], []⟩ [(x, u)])
    (hsp : ∀ H : Hp, SqL K H a (ns.map V.int) → sp [.ref a] H (fun v _ => v = .bl true) E0) :
    codeAny (model P w) callerA (.call (.ref fa) ⟨[.ref a], []⟩) (fun r s' => r = .ok (.ret (.bool true)) ∧ OldK s.heap s'.heap ∧ s'.os = s.os ∧ AllBare s'.gens) s := by
  have rv := vals_ints hi
  have ok : HOk P w (atEntry K a vs ns) s.heap := entry_ok ha rv hl
  -- what isn't the script stands in the base
  have free : ∀ {b : Addr} {o : Obj}, s.heap.get? b = some o → ((∃ es ep, o.data = .dict es ep) ∨ ∃ u, K.lookup b = some u) → atEntry K a vs ns b = none := fun {b o} hb h => by
    cases q : atEntry K a vs ns b with
    | none => rfl
    | some u =>
      obtain ⟨rfl, hk, _⟩ := entry_some q
      rcases h with ⟨es, ep, h⟩ | ⟨u, h⟩
      · rw [ha] at hb
        cases hb
        cases (show Data.seq vs.toArray _ = Data.dict es ep from h)
      · rw [hk] at h
        cases h
  have inb : ∀ {b : Addr} {m : Str → Option Value}, s.heap.Ns b m → (hidT s.heap (atEntry K a vs ns)).Ns b m := by
    rintro b m ⟨o, es, ep, e, d, r⟩
    exact ⟨o, es, ep, hidT_get e (free e (.inl ⟨es, ep, d⟩)), d, r⟩
  have KB : K.In (hidT s.heap (atEntry K a vs ns)) := fun b o e => hidT_get (KX b o e) (free (KX b o e) (.inr ⟨o, e⟩))
  have M : Mod K mg (hidT s.heap (atEntry K a vs ns)) := ⟨KB, inb hns, ⟨mb, inb hb, hbb⟩, hlim.imp fun m z => ⟨inb z.1, z.2⟩⟩
  have e0 : Env0 P w K mg (hidT s.heap (atEntry K a vs ns)) callerA [] s (atEntry K a vs ns) :=
    ⟨rfl, M, fun b o e => of_hidT e, Nat.le_of_eq (hidT_size _ _), trivial, fun b z => absurd (show b ∈ ([] : List Addr) from z) List.not_mem_nil, ok, .of_eq hg⟩
  have run := (F _ KB (inb hns)).go callerA rfl hr [] s _ ⟨[.ref a], []⟩ [.ref a] [.ref a] _ _ e0 (hbind s (.ref a)) (.cons rfl .nil) (hsp _ (entry_list KX ha rv hl))
  refine codeAny_mono run fun r s2 h => ?_
  cases r with
  | error z => exact False.elim h
  | ok fl =>
    cases fl with
    | next => exact False.elim h
    | brk => exact False.elim h
    | cont => exact False.elim h
    | ret u =>
      obtain ⟨v, H2, os, bare, un, ok2, ru, q⟩ := h
      obtain rfl : v = .bl true := q
      obtain rfl : u = Value.bool true := ru
      refine ⟨rfl, .of_keep fun b o e => ?_, os, bare⟩
      cases q : atEntry K a vs ns b with
      | none => exact un.keep b o e q (fun z => absurd (show b ∈ ([] : List Addr) from z) List.not_mem_nil) List.not_mem_nil
      | some u =>
        obtain ⟨_, _, rfl⟩ := entry_some q
        obtain ⟨z1, _⟩ := ok b _ q
        obtain ⟨z2, _⟩ := ok2 b _ (un.frzs b _ _ q)
        rw [e] at z1
        cases z1
        exact z2
/-- the end of the row -/
theorem walkG {l : PySem.W.OpenLaw} {n : Nat} {q : Program} {loose : List Str} {XP : (Str → Option Value) → Heap → Prop} {YP : World → Heap → Prop} {d : DefRec} {Kf : Params → PySem.W.Frag} {sp : PySem.W.Frag → Sp}
    (hn : l.most = some n) (hn2 : n ≤ sizeLine) (hdf : d.params.defaults = []) (hr : Room k callerA) (hY : ∀ (w : World) (h : Heap), YP w h → (Kf w.params).In h)
    (F : ∀ (w : World) (mg : Str → Option Value) (fa : Addr) (h : Heap), (Kf w.params).In h → h.Ns mainGlobals mg → mg d.name = some (.ref fa) →
      ∃ fd : FuncData, (∀ (s : Shared) (u : Value), BindsTo s fd ⟨[u], []⟩ [(x, u)]) ∧ ∀ base : Heap, (Kf w.params).In base → base.Ns mainGlobals mg → FnG l.prog w (Kf w.params) mg base k fa fd [x] (sp (Kf w.params)))
    (hsp : ∀ (K : PySem.W.Frag) (H : Hp) (a : Addr) (ns : List Int), ns.length ≤ n → SqL K H a (ns.map V.int) → sp K [.ref a] H (fun v _ => v = .bl true) E0) :
    PySem.W.WalkO q loose XP YP l.row.toRowW d [] (fun f vs => PySem.call f vs) := by
  refine Att.attach_call hn hdf fun w s0 s1 mg mb fa o pm cd doc a vs ns G Y ho hd hcd hmg hobj hints hlen hg => ?_
  obtain ⟨fd, hb, hF⟩ := F w mg fa _ (hY w _ Y) G.T.g hmg
  exact enterG (hY w _ Y) G.T.g G.T.b G.T.builtins G.T.nolimit hg hobj hints (Nat.le_trans hlen hn2) hr hF hb fun H hS => hsp _ H a ns hlen hS
end
end Sg
set_option Elab.async false
set_option linter.all false
set_option maxRecDepth 100000
set_option maxHeartbeats 4000000
/-! The text by places; what every def's proof uses. -/
namespace Sg
open PySem PySem.Spec PyProof.Rows L2
def topS (i : Nat) : Stmt := PySem.Challenge.pw_samegaps_k77_whole_turned_multiplied_rol.main.body.getD i (.Pass ⟨0, 0, 0, 0⟩)
/-- is_whole: 0 value -/
abbrev s_is_whole : Stmt := topS 8
theorem sc_is_whole : FnScope ["value"] ["value"] (defScope s_is_whole) := ⟨rfl, rfl, rfl, by decide +kernel, rfl, by decide +kernel, by decide +kernel⟩
/-- is_whole_between: 0 value, 1 low, 2 high -/
abbrev s_is_whole_between : Stmt := topS 9
theorem sc_is_whole_between : FnScope ["value", "low", "high"] ["value", "low", "high"] (defScope s_is_whole_between) := ⟨rfl, rfl, rfl, by decide +kernel, rfl, by decide +kernel, by decide +kernel⟩
/-- is_pair: 0 value -/
abbrev s_is_pair : Stmt := topS 10
theorem sc_is_pair : FnScope ["value"] ["value"] (defScope s_is_pair) := ⟨rfl, rfl, rfl, by decide +kernel, rfl, by decide +kernel, by decide +kernel⟩
/-- wrong_in_row: 0 value, 1 index, 2 each -/
abbrev s_wrong_in_row : Stmt := topS 13
theorem sc_wrong_in_row : FnScope ["value", "index", "each"] ["value"] (defScope s_wrong_in_row) := ⟨rfl, rfl, rfl, by decide +kernel, rfl, by decide +kernel, by decide +kernel⟩
/-- row_of_sums: 0 sums, 1 place; cells sums -/
abbrev s_row_of_sums : Stmt := topS 14
theorem sc_row_of_sums : FnScope ["sums", "place"] ["sums"] (defScope s_row_of_sums) := ⟨rfl, rfl, rfl, by decide +kernel, rfl, by decide +kernel, by decide +kernel⟩
/-- row_mirror: 0 row, 1 place, 2 weight -/
abbrev s_row_mirror : Stmt := topS 15
theorem sc_row_mirror : FnScope ["row", "place", "weight"] ["row"] (defScope s_row_mirror) := ⟨rfl, rfl, rfl, by decide +kernel, rfl, by decide +kernel, by decide +kernel⟩
/-- row_product: 0 row, 1 other, 2 sums, 3 place, 4 weight, 5 at, 6 by -/
abbrev s_row_product : Stmt := topS 16
theorem sc_row_product : FnScope ["row", "other", "sums", "place", "weight", "at", "by"] ["row", "other"] (defScope s_row_product) := ⟨rfl, rfl, rfl, by decide +kernel, rfl, by decide +kernel, by decide +kernel⟩
/-- wrong_in_lot: 0 n, 1 value, 2 at, 3 each -/
abbrev s_wrong_in_lot : Stmt := topS 18
theorem sc_wrong_in_lot : FnScope ["n", "value", "at", "each"] ["n", "value"] (defScope s_wrong_in_lot) := ⟨rfl, rfl, rfl, by decide +kernel, rfl, by decide +kernel, by decide +kernel⟩
/-- serves_round: 0 n, 1 many -/
abbrev s_serves_round : Stmt := topS 19
theorem sc_serves_round : FnScope ["n", "many"] ["n", "many"] (defScope s_serves_round) := ⟨rfl, rfl, rfl, by decide +kernel, rfl, by decide +kernel, by decide +kernel⟩
/-- lot_of: 0 n, 1 places, 2 place; cells n -/
abbrev s_lot_of : Stmt := topS 20
theorem sc_lot_of : FnScope ["n", "places", "place"] ["n", "places"] (defScope s_lot_of) := ⟨rfl, rfl, rfl, by decide +kernel, rfl, by decide +kernel, by decide +kernel⟩
/-- gaps_round: 0 n, 1 lot, 2 found, 3 one, 4 two, 5 _ -/
abbrev s_gaps_round : Stmt := topS 21
theorem sc_gaps_round : FnScope ["n", "lot", "found", "one", "two", "_"] ["n", "lot"] (defScope s_gaps_round) := ⟨rfl, rfl, rfl, by decide +kernel, rfl, by decide +kernel, by decide +kernel⟩
/-- turned_lot: 0 n, 1 lot, 2 turn, 3 place; cells turn -/
abbrev s_turned_lot : Stmt := topS 22
theorem sc_turned_lot : FnScope ["n", "lot", "turn", "place"] ["n", "lot", "turn"] (defScope s_turned_lot) := ⟨rfl, rfl, rfl, by decide +kernel, rfl, by decide +kernel, by decide +kernel⟩
/-- mirrored_lot: 0 n, 1 lot, 2 place -/
abbrev s_mirrored_lot : Stmt := topS 23
theorem sc_mirrored_lot : FnScope ["n", "lot", "place"] ["n", "lot"] (defScope s_mirrored_lot) := ⟨rfl, rfl, rfl, by decide +kernel, rfl, by decide +kernel, by decide +kernel⟩
/-- multiplied_lot: 0 n, 1 lot, 2 many, 3 place; cells many -/
abbrev s_multiplied_lot : Stmt := topS 24
theorem sc_multiplied_lot : FnScope ["n", "lot", "many", "place"] ["n", "lot", "many"] (defScope s_multiplied_lot) := ⟨rfl, rfl, rfl, by decide +kernel, rfl, by decide +kernel, by decide +kernel⟩
/-- rolled_by: 0 n, 1 row, 2 found, 3 place, 4 weight, 5 _ -/
abbrev s_rolled_by : Stmt := topS 25
theorem sc_rolled_by : FnScope ["n", "row", "found", "place", "weight", "_"] ["n", "row"] (defScope s_rolled_by) := ⟨rfl, rfl, rfl, by decide +kernel, rfl, by decide +kernel, by decide +kernel⟩
/-- check_between: 0 value, 1 low, 2 high -/
abbrev s_check_between : Stmt := topS 28
theorem sc_check_between : FnScope ["value", "low", "high"] ["value", "low", "high"] (defScope s_check_between) := ⟨rfl, rfl, rfl, by decide +kernel, rfl, by decide +kernel, by decide +kernel⟩
/-- check_places_round: 0 n -/
abbrev s_check_places_round : Stmt := topS 29
theorem sc_check_places_round : FnScope ["n"] ["n"] (defScope s_check_places_round) := ⟨rfl, rfl, rfl, by decide +kernel, rfl, by decide +kernel, by decide +kernel⟩
/-- check_lot: 0 n, 1 value, 2 index -/
abbrev s_check_lot : Stmt := topS 30
theorem sc_check_lot : FnScope ["n", "value", "index"] ["n", "value"] (defScope s_check_lot) := ⟨rfl, rfl, rfl, by decide +kernel, rfl, by decide +kernel, by decide +kernel⟩
/-- check_round: 0 n, 1 lot -/
abbrev s_check_round : Stmt := topS 31
theorem sc_check_round : FnScope ["n", "lot"] ["n", "lot"] (defScope s_check_round) := ⟨rfl, rfl, rfl, by decide +kernel, rfl, by decide +kernel, by decide +kernel⟩
/-- check_many_round: 0 n, 1 value -/
abbrev s_check_many_round : Stmt := topS 32
theorem sc_check_many_round : FnScope ["n", "value"] ["n", "value"] (defScope s_check_many_round) := ⟨rfl, rfl, rfl, by decide +kernel, rfl, by decide +kernel, by decide +kernel⟩
/-- check_row: 0 value, 1 index -/
abbrev s_check_row : Stmt := topS 34
theorem sc_check_row : FnScope ["value", "index"] ["value"] (defScope s_check_row) := ⟨rfl, rfl, rfl, by decide +kernel, rfl, by decide +kernel, by decide +kernel⟩
/-- check_both: 0 row, 1 other -/
abbrev s_check_both : Stmt := topS 35
theorem sc_check_both : FnScope ["row", "other"] ["row", "other"] (defScope s_check_both) := ⟨rfl, rfl, rfl, by decide +kernel, rfl, by decide +kernel, by decide +kernel⟩
/-- check_whole: 0 value -/
abbrev s_check_whole : Stmt := topS 36
theorem sc_check_whole : FnScope ["value"] ["value"] (defScope s_check_whole) := ⟨rfl, rfl, rfl, by decide +kernel, rfl, by decide +kernel, by decide +kernel⟩
/-- few_pairs: 0 row -/
abbrev s_few_pairs : Stmt := topS 37
theorem sc_few_pairs : FnScope ["row"] ["row"] (defScope s_few_pairs) := ⟨rfl, rfl, rfl, by decide +kernel, rfl, by decide +kernel, by decide +kernel⟩
/-- differences_round: 0 n, 1 lot -/
abbrev s_differences_round : Stmt := topS 39
theorem sc_differences_round : FnScope ["n", "lot"] ["n", "lot"] (defScope s_differences_round) := ⟨rfl, rfl, rfl, by decide +kernel, rfl, by decide +kernel, by decide +kernel⟩
/-- turned_round: 0 n, 1 lot, 2 turn -/
abbrev s_turned_round : Stmt := topS 40
theorem sc_turned_round : FnScope ["n", "lot", "turn"] ["n", "lot", "turn"] (defScope s_turned_round) := ⟨rfl, rfl, rfl, by decide +kernel, rfl, by decide +kernel, by decide +kernel⟩
/-- mirrored_round: 0 n, 1 lot -/
abbrev s_mirrored_round : Stmt := topS 41
theorem sc_mirrored_round : FnScope ["n", "lot"] ["n", "lot"] (defScope s_mirrored_round) := ⟨rfl, rfl, rfl, by decide +kernel, rfl, by decide +kernel, by decide +kernel⟩
/-- multiplied: 0 n, 1 lot, 2 many -/
abbrev s_multiplied : Stmt := topS 42
theorem sc_multiplied : FnScope ["n", "lot", "many"] ["n", "lot", "many"] (defScope s_multiplied) := ⟨rfl, rfl, rfl, by decide +kernel, rfl, by decide +kernel, by decide +kernel⟩
/-- rolled: 0 n, 1 row -/
abbrev s_rolled : Stmt := topS 43
theorem sc_rolled : FnScope ["n", "row"] ["n", "row"] (defScope s_rolled) := ⟨rfl, rfl, rfl, by decide +kernel, rfl, by decide +kernel, by decide +kernel⟩
/-- mirrored: 0 row -/
abbrev s_mirrored : Stmt := topS 45
theorem sc_mirrored : FnScope ["row"] ["row"] (defScope s_mirrored) := ⟨rfl, rfl, rfl, by decide +kernel, rfl, by decide +kernel, by decide +kernel⟩
/-- product: 0 row, 1 other -/
abbrev s_product : Stmt := topS 46
theorem sc_product : FnScope ["row", "other"] ["row", "other"] (defScope s_product) := ⟨rfl, rfl, rfl, by decide +kernel, rfl, by decide +kernel, by decide +kernel⟩
/-- _law_spring: 0 _law_script, 1 _law_turn, 2 _law_here, 3 _law_mixed, 4 _law_cell -/
abbrev s_law_spring : Stmt := topS 48
theorem sc_law_spring : FnScope ["_law_script", "_law_turn", "_law_here", "_law_mixed", "_law_cell"] ["_law_script", "_law_turn"] (defScope s_law_spring) := ⟨rfl, rfl, rfl, by decide +kernel, rfl, by decide +kernel, by decide +kernel⟩
/-- _law_draw: 0 _law_spring_here, 1 _law_many, 2 _law_figure, 3 _law_mixed -/
abbrev s_law_draw : Stmt := topS 49
theorem sc_law_draw : FnScope ["_law_spring_here", "_law_many", "_law_figure", "_law_mixed"] ["_law_spring_here", "_law_many"] (defScope s_law_draw) := ⟨rfl, rfl, rfl, by decide +kernel, rfl, by decide +kernel, by decide +kernel⟩
/-- _law_one_of: 0 _law_spring_here, 1 _law_some -/
abbrev s_law_one_of : Stmt := topS 50
theorem sc_law_one_of : FnScope ["_law_spring_here", "_law_some"] ["_law_spring_here", "_law_some"] (defScope s_law_one_of) := ⟨rfl, rfl, rfl, by decide +kernel, rfl, by decide +kernel, by decide +kernel⟩
/-- _law_lot: 0 _law_spring_here, 1 _law_many, 2 _law_thin, 3 _law_k; cells _law_spring_here _law_thin -/
abbrev s_law_lot : Stmt := topS 51
theorem sc_law_lot : FnScope ["_law_spring_here", "_law_many", "_law_thin", "_law_k"] ["_law_spring_here", "_law_many"] (defScope s_law_lot) := ⟨rfl, rfl, rfl, by decide +kernel, rfl, by decide +kernel, by decide +kernel⟩
/-- _law_round: 0 _law_many, 1 _law_lot_here, 2 _law_found, 3 _law_one, 4 _law_other -/
abbrev s_law_round : Stmt := topS 52
theorem sc_law_round : FnScope ["_law_many", "_law_lot_here", "_law_found", "_law_one", "_law_other"] ["_law_many", "_law_lot_here"] (defScope s_law_round) := ⟨rfl, rfl, rfl, by decide +kernel, rfl, by decide +kernel, by decide +kernel⟩
/-- _law_ring: 0 _law_spring_here -/
abbrev s_law_ring : Stmt := topS 53
theorem sc_law_ring : FnScope ["_law_spring_here"] ["_law_spring_here"] (defScope s_law_ring) := ⟨rfl, rfl, rfl, by decide +kernel, rfl, by decide +kernel, by decide +kernel⟩
/-- _law_free: 0 _law_n, 1 _law_k, 2 _law_m; cells _law_n -/
abbrev s_law_free : Stmt := topS 54
theorem sc_law_free : FnScope ["_law_n", "_law_k", "_law_m"] ["_law_n"] (defScope s_law_free) := ⟨rfl, rfl, rfl, by decide +kernel, rfl, by decide +kernel, by decide +kernel⟩
/-- _law_row: 0 _law_spring_here, 1 _law_found, 2 _law_turn, 3 _law_more, 4 _law_place; cells _law_found _law_more -/
abbrev s_law_row : Stmt := topS 55
theorem sc_law_row : FnScope ["_law_spring_here", "_law_found", "_law_turn", "_law_more", "_law_place"] ["_law_spring_here"] (defScope s_law_row) := ⟨rfl, rfl, rfl, by decide +kernel, rfl, by decide +kernel, by decide +kernel⟩
/-- _law_rolled: 0 _law_n, 1 _law_row_here, 2 _law_found, 3 _law_place, 4 _law_weight -/
abbrev s_law_rolled : Stmt := topS 56
theorem sc_law_rolled : FnScope ["_law_n", "_law_row_here", "_law_found", "_law_place", "_law_weight"] ["_law_n", "_law_row_here"] (defScope s_law_rolled) := ⟨rfl, rfl, rfl, by decide +kernel, rfl, by decide +kernel, by decide +kernel⟩
/-- _law_times_round: 0 _law_one, 1 _law_other, 2 _law_sign, 3 _law_found, 4 _law_k, 5 _law_j, 6 _law_at -/
abbrev s_law_times_round : Stmt := topS 57
theorem sc_law_times_round : FnScope ["_law_one", "_law_other", "_law_sign", "_law_found", "_law_k", "_law_j", "_law_at"] ["_law_one", "_law_other", "_law_sign"] (defScope s_law_times_round) := ⟨rfl, rfl, rfl, by decide +kernel, rfl, by decide +kernel, by decide +kernel⟩
/-- _law_lots_right: 0 _law_spring_here, 1 _law_n, 2 _law_lot_here, 3 _law_turn, 4 _law_many, 5 _law_further, 6 _law_mirror, 7 _law_multiple, 8 _law_own, 9 _law_told, 10 _law_k, 11 _law_d; cells _law_n _law_turn _law_many _law_told -/
abbrev s_law_lots_right : Stmt := topS 58
theorem sc_law_lots_right : FnScope ["_law_spring_here", "_law_n", "_law_lot_here", "_law_turn", "_law_many", "_law_further", "_law_mirror", "_law_multiple", "_law_own", "_law_told", "_law_k", "_law_d"] ["_law_spring_here", "_law_n"] (defScope s_law_lots_right) := ⟨rfl, rfl, rfl, by decide +kernel, rfl, by decide +kernel, by decide +kernel⟩
/-- _law_right: 0 _law_spring_here, 1 _law_n, 2 _law_one, 3 _law_other, 4 _law_round_one, 5 _law_round_other, 6 _law_both, 7 _law_turned -/
abbrev s_law_right : Stmt := topS 59
theorem sc_law_right : FnScope ["_law_spring_here", "_law_n", "_law_one", "_law_other", "_law_round_one", "_law_round_other", "_law_both", "_law_turned"] ["_law_spring_here"] (defScope s_law_right) := ⟨rfl, rfl, rfl, by decide +kernel, rfl, by decide +kernel, by decide +kernel⟩
/-- law: 0 _law_script, 1 _law_turn; cells _law_script -/
abbrev s_law : Stmt := topS 60
theorem sc_law : FnScope ["_law_script", "_law_turn"] ["_law_script"] (defScope s_law) := ⟨rfl, rfl, rfl, by decide +kernel, rfl, by decide +kernel, by decide +kernel⟩
/-! ### a def of the text as the top has left it -/
structure Def (K : PySem.W.Frag) (mg : Str → Option Value) (x : Str) (st : Stmt) (ps : List Str) where
  f : Addr
  fd : FuncData
  F : Fun K x x st f fd
  b : Binds K fd ps []
  g : mg x = some (.ref f)
/-- the built-ins are still the built-ins; the constants -/
structure Blt (mg : Str → Option Value) : Prop where
  isi : mg "isinstance" = none
  int : mg "int" = none
  bool : mg "bool" = none
  tup : mg "tuple" = none
  len : mg "len" = none
  enum : mg "enumerate" = none
  srt : mg "sorted" = none
  rng : mg "range" = none
  abs : mg "abs" = none
  dmd : mg "divmod" = none
  lst : mg "list" = none
  rep : mg "repr" = none
  all : mg "all" = none
  max : mg "max" = none
  min : mg "min" = none
  gcd : mg "gcd" = some (.builtin "math.gcd")
  pairs : ∃ t : Tok, mg "MOST_PAIRS" = some (.int 400 t)
  round : ∃ t : Tok, mg "MOST_ROUND" = some (.int 60 t)

/-! ### heaps -/
theorem same_upd {H : Hp} {p : Addr} {o : HO} (h : H p = none) : Same H (upd H p o) := fun b x e => by
  rw [upd_ne (ne_of_none e h)]
  exact e
/-- all but what stands at a is as it was -/
def Ex (a : Addr) (H H' : Hp) : Prop := ∀ b o, b ≠ a → H b = some o → H' b = some o
theorem Ex.refl (a : Addr) (H : Hp) : Ex a H H := fun _ _ _ h => h
theorem Ex.trans {a : Addr} {H H1 H2 : Hp} (x : Ex a H H1) (y : Ex a H1 H2) : Ex a H H2 := fun b o n h => y b o n (x b o n h)
theorem Ex.of {a : Addr} {H H' : Hp} (s : Same H H') : Ex a H H' := fun b o _ h => s b o h
theorem Ex.upd {a : Addr} {H : Hp} {o : HO} : Ex a H (L2.upd H a o) := fun b u n h => by
  rw [upd_ne n]
  exact h
theorem Ex.new {a p : Addr} {H H' : Hp} {o : HO} (x : Ex a H H') (h : H' p = none) : Ex a H (L2.upd H' p o) := x.trans (.of (same_upd h))
theorem snew {p : Addr} {H H' : Hp} {o : HO} (x : Same H H') (h : H' p = none) : Same H (L2.upd H' p o) := x.trans (same_upd h)
/-- the spring: three whole numbers, whatever they are -/
def Spr (H : Hp) (a : Addr) : Prop := ∃ x y z : Int, H a = some (.lst [.int x, .int y, .int z])
theorem Spr.same {H H' : Hp} {a : Addr} (h : Spr H a) (s : Same H H') : Spr H' a := let ⟨x, y, z, e⟩ := h; ⟨x, y, z, s _ _ e⟩
theorem Spr.new {H : Hp} {a p : Addr} {o : HO} (h : Spr H a) (hp : H p = none) : Spr (upd H p o) a := h.same (same_upd hp)
theorem Spr.ne_tup {H : Hp} {a b : Addr} {xs : List V} (h : Spr H a) (e : H b = some (.tup xs)) : b ≠ a := by
  obtain ⟨x, y, z, q⟩ := h
  exact ne_of e q (by intro w; cases w)
theorem Spr.ne_none {H : Hp} {a p : Addr} (h : Spr H a) (e : H p = none) : p ≠ a := by
  obtain ⟨x, y, z, q⟩ := h
  exact (ne_of_none q e).symm
theorem Ex.tup {a b : Addr} {H H' : Hp} {xs : List V} (x : Ex a H H') (h : Spr H a) (e : H b = some (.tup xs)) : H' b = some (.tup xs) := x b _ (h.ne_tup e) e
/-- a tuple, a list of whole numbers -/
abbrev TupI (H : Hp) (t : Addr) (l : List Int) : Prop := H t = some (.tup (l.map V.int))
abbrev LstI (H : Hp) (t : Addr) (l : List Int) : Prop := H t = some (.lst (l.map V.int))
theorem get_int {l : List Int} {i : Nat} {y : V} (h : (l.map V.int)[i]? = some y) : ∃ n, l[i]? = some n ∧ y = .int n := by
  rw [List.getElem?_map] at h
  cases e : l[i]? with
  | none => rw [e] at h; cases h
  | some n => rw [e] at h; exact ⟨n, rfl, (Option.some.inj h).symm⟩
theorem at_int {l : List Int} {i : Nat} {n : Int} (h : l[i]? = some n) : (l.map V.int)[i]? = some (.int n) := by
  rw [List.getElem?_map, h]; rfl
/-- a row's pairs, each a tuple -/
def Cells (H : Hp) (as : List Addr) (L : List (Int × Int)) : Prop := as.length = L.length ∧ ∀ (i : Nat) (x : Int × Int), L[i]? = some x → ∃ a, as[i]? = some a ∧ H a = some (.tup [.int x.1, .int x.2])
theorem Cells.same {H H' : Hp} {as : List Addr} {L : List (Int × Int)} (h : Cells H as L) (s : Same H H') : Cells H' as L :=
  ⟨h.1, fun i x e => let ⟨a, e1, e2⟩ := h.2 i x e; ⟨a, e1, s _ _ e2⟩⟩
theorem Cells.ex {H H' : Hp} {as : List Addr} {L : List (Int × Int)} {a : Addr} (h : Cells H as L) (sp : Spr H a) (s : Ex a H H') : Cells H' as L :=
  ⟨h.1, fun i x e => let ⟨b, e1, e2⟩ := h.2 i x e; ⟨b, e1, s.tup sp e2⟩⟩
theorem Cells.nil {H : Hp} : Cells H [] [] := ⟨rfl, fun i x e => by simp at e⟩
theorem Cells.snoc {H : Hp} {as : List Addr} {L : List (Int × Int)} {a : Addr} {x : Int × Int} (h : Cells H as L) (e : H a = some (.tup [.int x.1, .int x.2])) : Cells H (as ++ [a]) (L ++ [x]) := by
  refine ⟨by rw [List.length_append, List.length_append, h.1]; rfl, fun i y hy => ?_⟩
  by_cases hi : i < L.length
  · rw [List.getElem?_append_left hi] at hy
    obtain ⟨b, e1, e2⟩ := h.2 i y hy
    exact ⟨b, by rw [List.getElem?_append_left (by rw [h.1]; exact hi)]; exact e1, e2⟩
  · rw [List.getElem?_append_right (by omega)] at hy
    have h0 : i - L.length = 0 := by
      by_cases q : i - L.length = 0
      · exact q
      · rw [List.getElem?_eq_none (by simp; omega)] at hy
        cases hy
    rw [h0] at hy
    obtain rfl : x = y := Option.some.inj hy
    exact ⟨a, by rw [List.getElem?_append_right (by rw [h.1]; omega), h.1, h0]; rfl, e⟩
def RowAt (H : Hp) (t : Addr) (L : List (Int × Int)) : Prop := ∃ as : List Addr, H t = some (.tup (as.map V.ref)) ∧ Cells H as L
theorem RowAt.same {H H' : Hp} {t : Addr} {L : List (Int × Int)} (h : RowAt H t L) (s : Same H H') : RowAt H' t L := let ⟨as, e, c⟩ := h; ⟨as, s _ _ e, c.same s⟩
theorem RowAt.ex {H H' : Hp} {t a : Addr} {L : List (Int × Int)} (h : RowAt H t L) (sp : Spr H a) (s : Ex a H H') : RowAt H' t L := let ⟨as, e, c⟩ := h; ⟨as, s.tup sp e, c.ex sp s⟩
theorem Cells.at {H : Hp} {as : List Addr} {L : List (Int × Int)} (h : Cells H as L) {i : Nat} {y : V} (e : (as.map V.ref)[i]? = some y) : ∃ a x, y = .ref a ∧ L[i]? = some x ∧ H a = some (.tup [.int x.1, .int x.2]) := by
  have hi : i < L.length := by
    have := (List.getElem?_eq_some_iff.mp e).1
    rw [List.length_map, h.1] at this
    exact this
  obtain ⟨a, e1, e2⟩ := h.2 i L[i] (List.getElem?_eq_getElem hi)
  rw [List.getElem?_map, e1] at e
  exact ⟨a, L[i], (Option.some.inj e).symm, List.getElem?_eq_getElem hi, e2⟩
theorem small {n : Nat} (h : n ≤ 4000) : n < sizeLine := Nat.lt_of_le_of_lt h (by decide)
theorem small' {n : Nat} (h : n ≤ 4000) : n ≤ sizeLine := Nat.le_of_lt (small h)
theorem if_t {c : Bool} {A B : Prop} (hc : c = true) (h : A) : if c = true then A else B := by rw [if_pos hc]; exact h
theorem if_f {c : Bool} {A B : Prop} (hc : c = false) (h : B) : if c = true then A else B := by rw [hc, if_neg Bool.false_ne_true]; exact h
end Sg
set_option Elab.async false
set_option linter.all false
set_option maxRecDepth 100000
set_option maxHeartbeats 4000000
namespace Sg
open PySem PySem.Spec PyProof.Rows L2
section
variable {P : Program} {w : World} {K : PySem.W.Frag} {mg : Str → Option Value} {base : Heap}
/-! ### is_whole -/
def spWhole : Sp := fun vs H Q _ => ∃ i : Int, vs = [.int i] ∧ Q (.bl true) H
theorem ok_is_whole (D : Def K mg "is_whole" s_is_whole ["value"]) (B : Blt mg) : FnOk P w K mg base CX0 1 D.f D.fd ["value"] spWhole := by
  refine D.F.ok sc_is_whole (fun vs H Q E h => ?_) (fun cdv A outer s H vs Q E hr h => ?_)
  · obtain ⟨i, rfl, _⟩ := h
    rfl
  · obtain ⟨i, rfl, q⟩ := h
    refine ⟨_, pss_one (ps_ret (pe_and (pe_callB call_isi (by rfl) B.isi (by decide +kernel) (pa_cons (pv 0) (pa_cons (pe_bltn (v := .ty "int") (by rfl) B.int (by decide +kernel) rfl) pa_nil)))
      (pe_one (pe_not (pe_callB call_isi (by rfl) B.isi (by decide +kernel) (pa_cons (pv 0) (pa_cons (pe_bltn (v := .ty "bool") (by rfl) B.bool (by decide +kernel) rfl) pa_nil))))))), ?_⟩
    exact ⟨_, rfl, _, _, _, _, true, rfl, .ty "int", .base (.int i), kit_ty (by decide +kernel), true, rfl, iteT ⟨_, rfl, _, _, _, _, false, rfl, .ty "bool", .base (.int i), kit_ty (by decide +kernel), false, rfl, q⟩⟩
/-! ### is_whole_between -/
def spBetween : Sp := fun vs H Q _ => ∃ i lo hi : Int, vs = [.int i, .int lo, .int hi] ∧ lo ≤ i ∧ i ≤ hi ∧ Q (.bl true) H
theorem ok_is_whole_between (D : Def K mg "is_whole_between" s_is_whole_between ["value", "low", "high"]) (D1 : Def K mg "is_whole" s_is_whole ["value"]) (B : Blt mg) : FnOk P w K mg base CX0 2 D.f D.fd ["value", "low", "high"] spBetween := by
  refine D.F.ok sc_is_whole_between (fun vs H Q E h => ?_) (fun cdv A outer s H vs Q E hr h => ?_)
  · obtain ⟨i, lo, hi, rfl, _⟩ := h
    rfl
  · obtain ⟨i, lo, hi, rfl, h1, h2, q⟩ := h
    refine ⟨_, pss_one (ps_ret (pe_and (pe_call (ok_is_whole D1 B) hr (by rfl) D1.g D1.F.kp D1.b .nil pass0 (pa_cons (pv 0) pa_nil)) (pe_one (pe_chain op_le op_le (pv 1) (pv 0) (pv 2))))), ?_⟩
    refine ⟨_, rfl, i, rfl, true, rfl, iteT ⟨_, rfl, _, rfl, _, _, rfl, rfl, true, ?_, iteT ⟨_, rfl, _, _, rfl, rfl, ?_⟩⟩⟩
    · exact congrArg V.bl (decide_eq_true h1)
    · show Q (.bl (decide (i ≤ hi))) H
      rw [decide_eq_true h2]
      exact q
/-! ### is_pair -/
def spPair : Sp := fun vs H Q _ => ∃ (a : Addr) (x y : V), vs = [.ref a] ∧ H a = some (.tup [x, y]) ∧ Q (.bl true) H
theorem ok_is_pair (D : Def K mg "is_pair" s_is_pair ["value"]) (B : Blt mg) : FnOk P w K mg base CX0 1 D.f D.fd ["value"] spPair := by
  refine D.F.ok sc_is_pair (fun vs H Q E h => ?_) (fun cdv A outer s H vs Q E hr h => ?_)
  · obtain ⟨a, x, y, rfl, _⟩ := h
    rfl
  · obtain ⟨a, x, y, rfl, e, q⟩ := h
    refine ⟨_, pss_one (ps_ret (pe_and (pe_callB call_isi (by rfl) B.isi (by decide +kernel) (pa_cons (pv 0) (pa_cons (pe_bltn (v := .ty "tuple") (by rfl) B.tup (by decide +kernel) rfl) pa_nil)))
      (pe_one (pe_cmpR op_eq (pe_callB call_len_seq (by rfl) B.len (by decide +kernel) (pa_cons (pv 0) pa_nil)) pe_int (nomark _))))), ?_⟩
    exact ⟨_, rfl, _, _, _, _, true, rfl, .ty "tuple", .base (.tup e), kit_ty (by decide +kernel), true, rfl, iteT ⟨_, rfl, a, _, rfl, .inr (.of e), rfl, q⟩⟩
end
end Sg
set_option Elab.async false
set_option linter.all false
set_option maxRecDepth 100000
set_option maxHeartbeats 4000000
namespace Sg
open PySem PySem.Spec PyProof.Rows L2
section
variable {P : Program} {w : World} {K : PySem.W.Frag} {mg : Str → Option Value} {base : Heap}
theorem at_prev {l : List V} {i : Nat} {v : V} (h : l[i]? = some v) : atI l (((i + 1 : Nat) : Int) - 1) = some v := by
  rw [show ((i + 1 : Nat) : Int) - 1 = (i : Int) by omega]
  exact atI_nat h
theorem pw_get {l : List Int} (h : l.Pairwise (· < ·)) {i : Nat} {x y : Int} (a : l[i]? = some x) (b : l[i + 1]? = some y) : x < y := by
  obtain ⟨h1, e1⟩ := List.getElem?_eq_some_iff.mp a
  obtain ⟨h2, e2⟩ := List.getElem?_eq_some_iff.mp b
  have := List.pairwise_iff_getElem.mp h i (i + 1) h1 h2 (by omega)
  rw [e1, e2] at this
  exact this
/-! ### wrong_in_lot -/
def spWrongLot : Sp := fun vs H Q _ => ∃ (n : Nat) (t : Addr) (l : List Int), vs = [.int n, .ref t] ∧ TupI H t l ∧ Lot n l ∧ ∀ H' p, Same H H' → H' p = some (.lst []) → Q (.ref p) H'
theorem ok_wrong_in_lot (D : Def K mg "wrong_in_lot" s_wrong_in_lot ["n", "value"]) (D2 : Def K mg "is_whole_between" s_is_whole_between ["value", "low", "high"]) (D1 : Def K mg "is_whole" s_is_whole ["value"]) (B : Blt mg) :
    FnOk P w K mg base CX0 3 D.f D.fd ["n", "value"] spWrongLot := by
  refine D.F.ok sc_wrong_in_lot (fun vs H Q E h => ?_) (fun cdv A outer s H vs Q E hr h => ?_)
  · obtain ⟨n, t, l, rfl, _⟩ := h
    rfl
  · obtain ⟨n, t, l, rfl, ht, hl, q⟩ := h
    refine ⟨_, pss_cons (ps_if (pt_not (pt_val (pe_callB call_isi (by rfl) B.isi (by decide +kernel) (pa_cons (pv 1) (pa_cons (pe_bltn (v := .ty "tuple") (by rfl) B.tup (by decide +kernel) rfl) pa_nil))))) (pss_one ps_never) pss_nil)
      (pss_cons (ps_for PassesOwn.never rfl (pi_enumT (by rfl) B.enum (pa_cons (pv 1) pa_nil)) (pg_tup rfl (pgs_cons (pg_name (i := 2) sc_wrong_in_lot.nd rfl (.inl rfl)) (pgs_cons (pg_name (i := 3) sc_wrong_in_lot.nd rfl (.inl rfl)) pgs_nil)))
        (pss_one (ps_if (PW.pt (pw_or (pt_not (pt_val (pe_call (ok_is_whole_between D2 D1 B) hr (by rfl) D2.g D2.F.kp D2.b .nil pass0 (pa_cons (pv 3) (pa_cons pe_int (pa_cons (pe_op op_sub (pv 0) pe_int) pa_nil))))))
          (pw_or1 (PW.pt (pw_and (pt_cmpR op_gt (pv 2) pe_int (nomark _)) (pw_and1 (pt_cmpR op_le (pv 3) (pe_ix ix_tup (pv 1) (pe_op op_sub (pv 2) pe_int) (fun _ _ => rfl)) (nomark _))))))) ) (pss_one ps_never) pss_nil)))
      (pss_one (ps_ret (pe_lst pa_nil)))), ?_⟩
    refine ⟨_, rfl, _, _, _, _, true, rfl, .ty "tuple", .base (.tup ht), kit_ty (by decide +kernel), true, rfl, iteF ?_⟩
    refine ⟨_, rfl, t, _, rfl, .of ht, for_enumT (K := K) (a := t) (xs := l.map V.int) (fun i σ H' => ∃ y2 y3, σ = [some (.int n), some (.ref t), y2, y3] ∧ Same H H') ⟨_, _, rfl, Same.refl H⟩ (fun i σ H' _ h => ?_) ?_ ?_⟩
    · obtain ⟨_, _, _, sm⟩ := h
      exact .of (sm _ _ ht)
    · rintro i x σ H1 T hx ⟨y2, y3, rfl, sm⟩ hT
      obtain ⟨z, hz, rfl⟩ := get_int hx
      have mem := List.mem_of_getElem? hz
      have sm2 : Same H (upd H1 T (.tup [.int (i : Nat), .int z])) := snew sm hT
      refine ⟨T, _, rfl, .of upd_same, rfl, _, _, rfl, _, _, rfl, rfl, ?_⟩
      refine ⟨_, rfl, _, rfl, _, _, rfl, rfl, z, 0, (n : Int) - 1, rfl, hl.ge z mem, by have := hl.lt z mem; omega, true, rfl, iteF ?_⟩
      cases i with
      | zero =>
        refine ⟨_, rfl, _, _, rfl, rfl, false, rfl, iteF (iteF ?_)⟩
        exact ⟨_, _, rfl, sm2⟩
      | succ i =>
        have hp : i < l.length := by have := (List.getElem?_eq_some_iff.mp hz).1; omega
        have lt := pw_get hl.up (List.getElem?_eq_getElem hp) hz
        refine ⟨_, rfl, _, _, rfl, rfl, true, ?_, iteT ⟨_, rfl, _, rfl, _, rfl, _, _, rfl, rfl, t, l.map V.int, _, _, rfl, rfl, .of (sm2 _ _ ht), at_prev (at_int (List.getElem?_eq_getElem hp)), z, l[i], rfl, rfl, false, ?_, iteF ?_⟩⟩
        · exact congrArg V.bl (decide_eq_true (by omega))
        · exact congrArg V.bl (decide_eq_false (by omega))
        · exact ⟨_, _, rfl, sm2⟩
    · rintro σ H1 ⟨y2, y3, rfl, sm⟩
      exact ⟨Nat.zero_le _, fun p hp => q _ p (snew sm hp) upd_same⟩
end
end Sg
set_option Elab.async false
set_option linter.all false
set_option maxRecDepth 100000
set_option maxHeartbeats 4000000
namespace Sg
open PySem PySem.Spec PyProof.Rows L2
section
variable {P : Program} {w : World} {K : PySem.W.Frag} {mg : Str → Option Value} {base : Heap}
theorem row_up {L : List (Int × Int)} (h : Row L) {i : Nat} {x y : Int × Int} (a : L[i]? = some x) (b : L[i + 1]? = some y) : x.1 < y.1 :=
  pw_get h.up (i := i) (by rw [List.getElem?_map, a]; rfl) (by rw [List.getElem?_map, b]; rfl)
/-! ### wrong_in_row -/
def spWrongRow : Sp := fun vs H Q _ => ∃ (t : Addr) (L : List (Int × Int)), vs = [.ref t] ∧ RowAt H t L ∧ Row L ∧ L.length ≤ 400 ∧ ∀ H' p, Same H H' → H' p = some (.lst []) → Q (.ref p) H'
theorem ok_wrong_in_row (D : Def K mg "wrong_in_row" s_wrong_in_row ["value"]) (D2 : Def K mg "is_pair" s_is_pair ["value"]) (D1 : Def K mg "is_whole" s_is_whole ["value"]) (B : Blt mg) :
    FnOk P w K mg base CX0 2 D.f D.fd ["value"] spWrongRow := by
  obtain ⟨tk, gp⟩ := B.pairs
  have G1 := ok_is_whole (P := P) (w := w) (base := base) D1 B
  refine D.F.ok sc_wrong_in_row (fun vs H Q E h => ?_) (fun cdv A outer s H vs Q E hr h => ?_)
  · obtain ⟨t, L, rfl, _⟩ := h
    rfl
  · obtain ⟨t, L, rfl, hR, rw_, len, q⟩ := h
    obtain ⟨as, ht, cells⟩ := id hR
    refine ⟨_, pss_cons (ps_if (PW.pt (pw_or (pt_not (pt_val (pe_callB call_isi (by rfl) B.isi (by decide +kernel) (pa_cons (pv 0) (pa_cons (pe_bltn (v := .ty "tuple") (by rfl) B.tup (by decide +kernel) rfl) pa_nil)))))
        (pw_or1 (pt_cmpR op_gt (pe_callB call_len_seq (by rfl) B.len (by decide +kernel) (pa_cons (pv 0) pa_nil)) (pe_glob (v := .int 400) rfl gp ⟨_, rfl⟩) (nomark _))))) (pss_one ps_never) pss_nil)
      (pss_cons (ps_for PassesOwn.never rfl (pi_enumT (by rfl) B.enum (pa_cons (pv 0) pa_nil)) (pg_tup rfl (pgs_cons (pg_name (i := 1) sc_wrong_in_row.nd rfl (.inl rfl)) (pgs_cons (pg_name (i := 2) sc_wrong_in_row.nd rfl (.inl rfl)) pgs_nil)))
        (pss_cons (ps_if (PW.pt (pw_or (pt_not (pt_val (pe_call (ok_is_pair D2 B) hr (by rfl) D2.g D2.F.kp D2.b .nil pass0 (pa_cons (pv 2) pa_nil))))
            (pw_or (pt_not (pt_val (pe_call G1 hr (by rfl) D1.g D1.F.kp D1.b .nil pass0 (pa_cons (pe_ix ix_tup (pv 2) pe_int (fun _ _ => rfl)) pa_nil))))
            (pw_or (pt_not (pt_val (pe_call G1 hr (by rfl) D1.g D1.F.kp D1.b .nil pass0 (pa_cons (pe_ix ix_tup (pv 2) pe_int (fun _ _ => rfl)) pa_nil))))
            (pw_or1 (pt_cmpR op_eq (pe_ix ix_tup (pv 2) pe_int (fun _ _ => rfl)) pe_int (nomark _))))))) (pss_one ps_never) pss_nil)
        (pss_one (ps_if (PW.pt (pw_and (pt_cmpR op_gt (pv 1) pe_int (nomark _)) (pw_and1 (pt_cmpR op_ge (pe_ix ix_tup (pe_ix ix_tup (pv 0) (pe_op op_sub (pv 1) pe_int) (fun _ _ => rfl)) pe_int (fun _ _ => rfl)) (pe_ix ix_tup (pv 2) pe_int (fun _ _ => rfl)) (nomark _)))))
          (pss_one ps_never) pss_nil))))
      (pss_one (ps_ret (pe_lst pa_nil)))), ?_⟩
    refine ⟨_, rfl, _, _, _, _, true, rfl, .ty "tuple", .base (.tup ht), kit_ty (by decide +kernel), true, rfl, iteF ?_⟩
    refine ⟨_, rfl, t, _, rfl, .inr (.of ht), _, _, rfl, rfl, false, ?_, iteF ?_⟩
    · refine congrArg V.bl (decide_eq_false ?_)
      rw [List.length_map, cells.1]
      omega
    refine ⟨_, rfl, t, _, rfl, .of ht, for_enumT (K := K) (a := t) (xs := as.map V.ref) (fun i σ H' => ∃ y1 y2, σ = [some (.ref t), y1, y2] ∧ Same H H') ⟨_, _, rfl, Same.refl H⟩ (fun i σ H' _ h => ?_) ?_ ?_⟩
    · obtain ⟨_, _, _, sm⟩ := h
      exact .of (sm _ _ ht)
    · rintro i y σ H1 T hx ⟨y1, y2, rfl, sm⟩ hT
      obtain ⟨a, x, rfl, hx', ea⟩ := cells.at hx
      have sm2 : Same H (upd H1 T (.tup [.int (i : Nat), .ref a])) := snew sm hT
      have ea2 := sm2 _ _ ea
      have nz := rw_.nz x (List.mem_of_getElem? hx')
      refine ⟨T, _, rfl, .of upd_same, rfl, _, _, rfl, _, _, rfl, rfl, ?_⟩
      -- the pair is one of whole numbers, its weight not 0
      refine ⟨_, rfl, a, _, _, rfl, ea2, true, rfl, iteF ?_⟩
      refine ⟨_, rfl, a, _, 0, _, rfl, rfl, .of ea2, atI_nat (j := 0) rfl, x.1, rfl, true, rfl, iteF ?_⟩
      refine ⟨_, rfl, a, _, 1, _, rfl, rfl, .of ea2, atI_nat (j := 1) rfl, x.2, rfl, true, rfl, iteF ?_⟩
      refine ⟨_, rfl, a, _, 1, _, rfl, rfl, .of ea2, atI_nat (j := 1) rfl, rfl, false, ?_, iteF ?_⟩
      · exact congrArg V.bl (decide_eq_false fun e => nz (V.int.inj e))
      -- its place is above the one ahead
      cases i with
      | zero =>
        refine ⟨_, rfl, _, _, rfl, rfl, false, rfl, iteF (iteF ?_)⟩
        exact ⟨_, _, rfl, sm2⟩
      | succ i =>
        have hp : i < L.length := by have := (List.getElem?_eq_some_iff.mp hx').1; omega
        obtain ⟨b, eb1, eb2⟩ := cells.2 i L[i] (List.getElem?_eq_getElem hp)
        have lt := row_up rw_ (List.getElem?_eq_getElem hp) hx'
        have eb3 : (as.map V.ref)[i]? = some (.ref b) := by rw [List.getElem?_map, eb1]; rfl
        refine ⟨_, rfl, _, _, rfl, rfl, true, ?_, iteT ⟨_, rfl, _, rfl, _, _, rfl, rfl, t, as.map V.ref, _, _, rfl, rfl, .of (sm2 _ _ ht), at_prev eb3, b, _, 0, _, rfl, rfl, .of (sm2 _ _ eb2), atI_nat (j := 0) rfl,
          _, rfl, a, _, 0, _, rfl, rfl, .of ea2, atI_nat (j := 0) rfl, _, _, rfl, rfl, false, ?_, iteF ?_⟩⟩
        · exact congrArg V.bl (decide_eq_true (by omega))
        · exact congrArg V.bl (decide_eq_false (by omega))
        · exact ⟨_, _, rfl, sm2⟩
    · rintro σ H1 ⟨y1, y2, rfl, sm⟩
      exact ⟨Nat.zero_le _, fun p hp => q _ p (snew sm hp) upd_same⟩

/-! ### the looks -/
def spCheckBetween : Sp := fun vs H Q _ => ∃ i lo hi : Int, vs = [.int i, .int lo, .int hi] ∧ lo ≤ i ∧ i ≤ hi ∧ Q .non H
theorem ok_check_between (D : Def K mg "check_between" s_check_between ["value", "low", "high"]) (D2 : Def K mg "is_whole_between" s_is_whole_between ["value", "low", "high"]) (D1 : Def K mg "is_whole" s_is_whole ["value"]) (B : Blt mg) :
    FnOk P w K mg base CX0 3 D.f D.fd ["value", "low", "high"] spCheckBetween := by
  refine D.F.ok sc_check_between (fun vs H Q E h => ?_) (fun cdv A outer s H vs Q E hr h => ?_)
  · obtain ⟨i, lo, hi, rfl, _⟩ := h
    rfl
  · obtain ⟨i, lo, hi, rfl, h1, h2, q⟩ := h
    refine ⟨_, pss_one (ps_if (pt_not (pt_val (pe_call (ok_is_whole_between D2 D1 B) hr (by rfl) D2.g D2.F.kp D2.b .nil pass0 (pa_cons (pv 0) (pa_cons (pv 1) (pa_cons (pv 2) pa_nil)))))) (pss_one ps_never) pss_nil), ?_⟩
    exact ⟨_, rfl, _, rfl, _, rfl, i, lo, hi, rfl, h1, h2, true, rfl, iteF q⟩
def spCheckPlaces : Sp := fun vs H Q _ => ∃ n : Nat, vs = [.int n] ∧ 0 < n ∧ n ≤ 60 ∧ Q .non H
theorem ok_check_places_round (D : Def K mg "check_places_round" s_check_places_round ["n"]) (D3 : Def K mg "check_between" s_check_between ["value", "low", "high"]) (D2 : Def K mg "is_whole_between" s_is_whole_between ["value", "low", "high"]) (D1 : Def K mg "is_whole" s_is_whole ["value"]) (B : Blt mg) :
    FnOk P w K mg base CX0 4 D.f D.fd ["n"] spCheckPlaces := by
  obtain ⟨tk, gp⟩ := B.round
  refine D.F.ok sc_check_places_round (fun vs H Q E h => ?_) (fun cdv A outer s H vs Q E hr h => ?_)
  · obtain ⟨n, rfl, _⟩ := h
    rfl
  · obtain ⟨n, rfl, h1, h2, q⟩ := h
    refine ⟨_, pss_one (ps_expr (pe_call (ok_check_between D3 D2 D1 B) hr (by rfl) D3.g D3.F.kp D3.b .nil pass0 (pa_cons (pv 0) (pa_cons pe_int (pa_cons (pe_glob (v := .int 60) rfl gp ⟨_, rfl⟩) pa_nil))))), ?_⟩
    exact ⟨_, rfl, (n : Int), 1, 60, rfl, by omega, by omega, q⟩
def spCheckLot : Sp := fun vs H Q _ => ∃ (n : Nat) (t : Addr) (l : List Int), vs = [.int n, .ref t] ∧ TupI H t l ∧ Lot n l ∧ ∀ H', Same H H' → Q .non H'
theorem ok_check_lot (D : Def K mg "check_lot" s_check_lot ["n", "value"]) (D3 : Def K mg "wrong_in_lot" s_wrong_in_lot ["n", "value"]) (D2 : Def K mg "is_whole_between" s_is_whole_between ["value", "low", "high"]) (D1 : Def K mg "is_whole" s_is_whole ["value"]) (B : Blt mg) :
    FnOk P w K mg base CX0 4 D.f D.fd ["n", "value"] spCheckLot := by
  refine D.F.ok sc_check_lot (fun vs H Q E h => ?_) (fun cdv A outer s H vs Q E hr h => ?_)
  · obtain ⟨n, t, l, rfl, _⟩ := h
    rfl
  · obtain ⟨n, t, l, rfl, ht, hl, q⟩ := h
    refine ⟨_, pss_one (ps_for PassesOwn.never rfl (pi_list (pe_call (ok_wrong_in_lot D3 D2 D1 B) hr (by rfl) D3.g D3.F.kp D3.b .nil pass0 (pa_cons (pv 0) (pa_cons (pv 1) pa_nil)))) (pg_name (i := 2) sc_check_lot.nd rfl (.inl rfl)) (pss_one ps_never)), ?_⟩
    refine ⟨_, rfl, _, rfl, n, t, l, rfl, ht, hl, fun H1 p sm hp => ⟨p, rfl, ⟨_, .of hp⟩, for_list (K := K) (a := p) (xs := []) (fun i σ H' => H' = H1) rfl (fun i σ H' _ e => by rw [e]; exact .of hp) (fun i x σ H' hx _ => by simp at hx) (fun σ H' e => by rw [e]; exact q H1 sm)⟩⟩
def spCheckRow : Sp := fun vs H Q _ => ∃ (t : Addr) (L : List (Int × Int)), vs = [.ref t] ∧ RowAt H t L ∧ Row L ∧ L.length ≤ 400 ∧ ∀ H', Same H H' → Q .non H'
theorem ok_check_row (D : Def K mg "check_row" s_check_row ["value"]) (D3 : Def K mg "wrong_in_row" s_wrong_in_row ["value"]) (D2 : Def K mg "is_pair" s_is_pair ["value"]) (D1 : Def K mg "is_whole" s_is_whole ["value"]) (B : Blt mg) :
    FnOk P w K mg base CX0 3 D.f D.fd ["value"] spCheckRow := by
  refine D.F.ok sc_check_row (fun vs H Q E h => ?_) (fun cdv A outer s H vs Q E hr h => ?_)
  · obtain ⟨t, L, rfl, _⟩ := h
    rfl
  · obtain ⟨t, L, rfl, ht, hl, len, q⟩ := h
    refine ⟨_, pss_one (ps_for PassesOwn.never rfl (pi_list (pe_call (ok_wrong_in_row D3 D2 D1 B) hr (by rfl) D3.g D3.F.kp D3.b .nil pass0 (pa_cons (pv 0) pa_nil))) (pg_name (i := 1) sc_check_row.nd rfl (.inl rfl)) (pss_one ps_never)), ?_⟩
    refine ⟨_, rfl, t, L, rfl, ht, hl, len, fun H1 p sm hp => ⟨p, rfl, ⟨_, .of hp⟩, for_list (K := K) (a := p) (xs := []) (fun i σ H' => H' = H1) rfl (fun i σ H' _ e => by rw [e]; exact .of hp) (fun i x σ H' hx _ => by simp at hx) (fun σ H' e => by rw [e]; exact q H1 sm)⟩⟩
end
end Sg
set_option Elab.async false
set_option linter.all false
set_option maxRecDepth 100000
set_option maxHeartbeats 4000000
namespace Sg
open PySem PySem.Spec PyProof.Rows L2
theorem sput {H H' : Hp} {D : Addr} {o : HO} (s : Same H H') (h : H D = none) : Same H (upd H' D o) := fun b u e => by
  rw [upd_ne (ne_of_none e h)]
  exact s _ _ e
theorem take_map {α β : Type} {l : List α} {f : α → β} {i : Nat} {x : α} (h : l[i]? = some x) : (l.take i).map f ++ [f x] = (l.take (i + 1)).map f := by
  rw [take_more h, List.map_append]; rfl
theorem take_le {α : Type} (l : List α) (i : Nat) : (l.take i).length ≤ l.length := by
  rw [List.length_take]; exact Nat.min_le_right _ _
section
variable {P : Program} {w : World} {K : PySem.W.Frag} {mg : Str → Option Value} {base : Heap}
/-! ### lot_of -/
def spLotOf : Sp := fun vs H Q _ => ∃ (n : Nat) (q : Addr) (l : List Int), vs = [.int n, .ref q] ∧ 0 < n ∧ LstI H q l ∧ l.length ≤ 60 ∧ ∀ H' p, Same H H' → TupI H' p (srt (l.map fun k => k % (n : Int))) → Q (.ref p) H'
theorem ok_lot_of (D : Def K mg "lot_of" s_lot_of ["n", "places"]) (B : Blt mg) : FnOk P w K mg base CX0 1 D.f D.fd ["n", "places"] spLotOf := by
  refine D.F.ok sc_lot_of (fun vs H Q E h => ?_) (fun cdv A outer s H vs Q E hr h => ?_)
  · obtain ⟨n, t, l, rfl, _⟩ := h
    rfl
  · obtain ⟨n, t, l, rfl, hn, ht, len, q⟩ := h
    refine ⟨_, pss_one (ps_ret (pe_callTy call_tuple_of (by rfl) B.tup (by decide +kernel) (pa_cons (pe_callB cr_sorted (by rfl) B.srt (by decide +kernel) (pa_cons
      (pe_lc (own := [("place", 2)]) (g := gName 2) (tt := tYes) rfl sc_lot_of.nd (pi_list (pv 1)) (blkOk_by (N := ["n", "places", "place"]) (sc := defScope s_lot_of) (by decide +kernel))
        (fun _ _ _ _ _ => pg_name (i := 2) sc_lot_of.nd rfl (Or.inl rfl)) (fun _ _ _ _ _ => pts_nil) (fun _ _ _ _ _ => pe_op op_mod (pv 2) (pv 0))) pa_nil)) pa_nil))), ?_⟩
    refine ⟨_, rfl, t, rfl, ⟨_, .of ht⟩, fun Ls hLs => lc_list (K := K) (a := t) (xs := l.map V.int) (fun i H' => Same H H' ∧ LstI H' Ls ((l.take i).map fun k => k % (n : Int))) ⟨same_upd hLs, upd_same⟩ (fun i H' _ h => .of (h.1 _ _ ht)) ?_ ?_⟩
    · rintro i x H1 hx ⟨sm, e⟩
      obtain ⟨z, hz, rfl⟩ := get_int hx
      refine ⟨rfl, _, rfl, _, rfl, _, _, rfl, rfl, by omega, _, e, ?_, sput sm hLs, ?_⟩
      · rw [List.length_map, List.length_map]
        have := take_le l i
        exact small (by omega)
      · show upd H1 Ls _ Ls = _
        rw [upd_same, ← take_map hz, List.map_append]
        rfl
    · rintro H1 ⟨sm, e⟩
      rw [List.length_map, List.take_length] at e
      refine ⟨Ls, _, rfl, .of e, by rw [List.length_map]; omega, fun ns p perm up hp => ?_⟩
      refine ⟨p, _, rfl, .inl ⟨.of upd_same, fun p2 hp2 => q _ p2 (snew (snew sm hp) hp2) ?_⟩⟩
      rw [← srt_of perm up]
      exact upd_same
end
end Sg
set_option Elab.async false
set_option linter.all false
set_option maxRecDepth 100000
set_option maxHeartbeats 4000000
namespace Sg
open PySem PySem.Spec PyProof.Rows L2
section
variable {P : Program} {w : World} {K : PySem.W.Frag} {mg : Str → Option Value} {base : Heap}
theorem map_comp {l : List Int} {f g : Int → Int} : (l.map f).map g = l.map fun k => g (f k) := by rw [List.map_map]; rfl
/-! ### turned_lot -/
def spTurnedLot : Sp := fun vs H Q _ => ∃ (n : Nat) (t : Addr) (l : List Int) (T : Int), vs = [.int n, .ref t, .int T] ∧ 0 < n ∧ n ≤ 60 ∧ TupI H t l ∧ Lot n l ∧ ∀ H' p, Same H H' → TupI H' p (srt (l.map fun k => (k + T) % (n : Int))) → Q (.ref p) H'
theorem ok_turned_lot (D : Def K mg "turned_lot" s_turned_lot ["n", "lot", "turn"]) (D1 : Def K mg "lot_of" s_lot_of ["n", "places"]) (B : Blt mg) : FnOk P w K mg base CX0 2 D.f D.fd ["n", "lot", "turn"] spTurnedLot := by
  refine D.F.ok sc_turned_lot (fun vs H Q E h => ?_) (fun cdv A outer s H vs Q E hr h => ?_)
  · obtain ⟨n, t, l, T, rfl, _⟩ := h
    rfl
  · obtain ⟨n, t, l, T, rfl, hn, h60, ht, hl, q⟩ := h
    have len := hl.len
    refine ⟨_, pss_one (ps_ret (pe_call (ok_lot_of D1 B) hr (by rfl) D1.g D1.F.kp D1.b .nil pass0 (pa_cons (pv 0) (pa_cons
      (pe_lc (own := [("place", 3)]) (g := gName 3) (tt := tYes) rfl sc_turned_lot.nd (pi_tup (pv 1)) (blkOk_by (N := ["n", "lot", "turn", "place"]) (sc := defScope s_turned_lot) (by decide +kernel))
        (fun _ _ _ _ _ => pg_name (i := 3) sc_turned_lot.nd rfl (Or.inl rfl)) (fun _ _ _ _ _ => pts_nil) (fun _ _ _ _ _ => pe_op op_add (pv 3) (pv 2))) pa_nil)))), ?_⟩
    refine ⟨_, rfl, _, rfl, t, rfl, ⟨_, .of ht⟩, fun Ls hLs => lc_tup (K := K) (a := t) (xs := l.map V.int) (fun i H' => Same H H' ∧ LstI H' Ls ((l.take i).map fun k => k + T)) ⟨same_upd hLs, upd_same⟩ (fun i H' _ h => .of (h.1 _ _ ht)) ?_ ?_⟩
    · rintro i x H1 hx ⟨sm, e⟩
      obtain ⟨z, hz, rfl⟩ := get_int hx
      refine ⟨rfl, _, rfl, _, rfl, _, _, rfl, rfl, _, e, ?_, sput sm hLs, ?_⟩
      · rw [List.length_map, List.length_map]
        have := take_le l i
        exact small (by omega)
      · show upd H1 Ls _ Ls = _
        rw [upd_same, ← take_map hz, List.map_append]
        rfl
    · rintro H1 ⟨sm, e⟩
      rw [List.length_map, List.take_length] at e
      refine ⟨n, Ls, _, rfl, hn, e, by rw [List.length_map]; omega, fun H2 p sm2 hp => q H2 p (sm.trans sm2) ?_⟩
      rw [map_comp] at hp
      exact hp
/-! ### mirrored_lot -/
def spMirroredLot : Sp := fun vs H Q _ => ∃ (n : Nat) (t : Addr) (l : List Int), vs = [.int n, .ref t] ∧ 0 < n ∧ n ≤ 60 ∧ TupI H t l ∧ Lot n l ∧ ∀ H' p, Same H H' → TupI H' p (srt (l.map fun k => (-k) % (n : Int))) → Q (.ref p) H'
theorem ok_mirrored_lot (D : Def K mg "mirrored_lot" s_mirrored_lot ["n", "lot"]) (D1 : Def K mg "lot_of" s_lot_of ["n", "places"]) (B : Blt mg) : FnOk P w K mg base CX0 2 D.f D.fd ["n", "lot"] spMirroredLot := by
  refine D.F.ok sc_mirrored_lot (fun vs H Q E h => ?_) (fun cdv A outer s H vs Q E hr h => ?_)
  · obtain ⟨n, t, l, rfl, _⟩ := h
    rfl
  · obtain ⟨n, t, l, rfl, hn, h60, ht, hl, q⟩ := h
    have len := hl.len
    refine ⟨_, pss_one (ps_ret (pe_call (ok_lot_of D1 B) hr (by rfl) D1.g D1.F.kp D1.b .nil pass0 (pa_cons (pv 0) (pa_cons
      (pe_lc (own := [("place", 2)]) (g := gName 2) (tt := tYes) rfl sc_mirrored_lot.nd (pi_tup (pv 1)) (blkOk_by (N := ["n", "lot", "place"]) (sc := defScope s_mirrored_lot) (by decide +kernel))
        (fun _ _ _ _ _ => pg_name (i := 2) sc_mirrored_lot.nd rfl (Or.inl rfl)) (fun _ _ _ _ _ => pts_nil) (fun _ _ _ _ _ => pe_un un_neg (pv 2))) pa_nil)))), ?_⟩
    refine ⟨_, rfl, _, rfl, t, rfl, ⟨_, .of ht⟩, fun Ls hLs => lc_tup (K := K) (a := t) (xs := l.map V.int) (fun i H' => Same H H' ∧ LstI H' Ls ((l.take i).map fun k => -k)) ⟨same_upd hLs, upd_same⟩ (fun i H' _ h => .of (h.1 _ _ ht)) ?_ ?_⟩
    · rintro i x H1 hx ⟨sm, e⟩
      obtain ⟨z, hz, rfl⟩ := get_int hx
      refine ⟨rfl, _, rfl, _, rfl, _, e, ?_, sput sm hLs, ?_⟩
      · rw [List.length_map, List.length_map]
        have := take_le l i
        exact small (by omega)
      · show upd H1 Ls _ Ls = _
        rw [upd_same, ← take_map hz, List.map_append]
        rfl
    · rintro H1 ⟨sm, e⟩
      rw [List.length_map, List.take_length] at e
      refine ⟨n, Ls, _, rfl, hn, e, by rw [List.length_map]; omega, fun H2 p sm2 hp => q H2 p (sm.trans sm2) ?_⟩
      rw [map_comp] at hp
      exact hp
/-! ### multiplied_lot -/
def spMultipliedLot : Sp := fun vs H Q _ => ∃ (n : Nat) (t : Addr) (l : List Int) (M : Int), vs = [.int n, .ref t, .int M] ∧ 0 < n ∧ n ≤ 60 ∧ TupI H t l ∧ Lot n l ∧ ∀ H' p, Same H H' → TupI H' p (srt (l.map fun k => (k * M) % (n : Int))) → Q (.ref p) H'
theorem ok_multiplied_lot (D : Def K mg "multiplied_lot" s_multiplied_lot ["n", "lot", "many"]) (D1 : Def K mg "lot_of" s_lot_of ["n", "places"]) (B : Blt mg) : FnOk P w K mg base CX0 2 D.f D.fd ["n", "lot", "many"] spMultipliedLot := by
  refine D.F.ok sc_multiplied_lot (fun vs H Q E h => ?_) (fun cdv A outer s H vs Q E hr h => ?_)
  · obtain ⟨n, t, l, T, rfl, _⟩ := h
    rfl
  · obtain ⟨n, t, l, T, rfl, hn, h60, ht, hl, q⟩ := h
    have len := hl.len
    refine ⟨_, pss_one (ps_ret (pe_call (ok_lot_of D1 B) hr (by rfl) D1.g D1.F.kp D1.b .nil pass0 (pa_cons (pv 0) (pa_cons
      (pe_lc (own := [("place", 3)]) (g := gName 3) (tt := tYes) rfl sc_multiplied_lot.nd (pi_tup (pv 1)) (blkOk_by (N := ["n", "lot", "many", "place"]) (sc := defScope s_multiplied_lot) (by decide +kernel))
        (fun _ _ _ _ _ => pg_name (i := 3) sc_multiplied_lot.nd rfl (Or.inl rfl)) (fun _ _ _ _ _ => pts_nil) (fun _ _ _ _ _ => pe_op op_mul (pv 3) (pv 2))) pa_nil)))), ?_⟩
    refine ⟨_, rfl, _, rfl, t, rfl, ⟨_, .of ht⟩, fun Ls hLs => lc_tup (K := K) (a := t) (xs := l.map V.int) (fun i H' => Same H H' ∧ LstI H' Ls ((l.take i).map fun k => k * T)) ⟨same_upd hLs, upd_same⟩ (fun i H' _ h => .of (h.1 _ _ ht)) ?_ ?_⟩
    · rintro i x H1 hx ⟨sm, e⟩
      obtain ⟨z, hz, rfl⟩ := get_int hx
      have mem := List.mem_of_getElem? hz
      have z0 := hl.ge z mem
      have z1 := hl.lt z mem
      refine ⟨rfl, _, rfl, _, rfl, _, _, rfl, rfl, .inl ⟨by omega, by omega⟩, _, e, ?_, sput sm hLs, ?_⟩
      · rw [List.length_map, List.length_map]
        have := take_le l i
        exact small (by omega)
      · show upd H1 Ls _ Ls = _
        rw [upd_same, ← take_map hz, List.map_append]
        rfl
    · rintro H1 ⟨sm, e⟩
      rw [List.length_map, List.take_length] at e
      refine ⟨n, Ls, _, rfl, hn, e, by rw [List.length_map]; omega, fun H2 p sm2 hp => q H2 p (sm.trans sm2) ?_⟩
      rw [map_comp] at hp
      exact hp
/-! ### the further looks -/
def spServes : Sp := fun vs H Q _ => ∃ (n : Nat) (M : Int), vs = [.int n, .int M] ∧ Nat.gcd n M.natAbs = 1 ∧ Q (.bl true) H
theorem ok_serves_round (D : Def K mg "serves_round" s_serves_round ["n", "many"]) (B : Blt mg) : FnOk P w K mg base CX0 1 D.f D.fd ["n", "many"] spServes := by
  refine D.F.ok sc_serves_round (fun vs H Q E h => ?_) (fun cdv A outer s H vs Q E hr h => ?_)
  · obtain ⟨n, M, rfl, _⟩ := h
    rfl
  · obtain ⟨n, M, rfl, hg, q⟩ := h
    refine ⟨_, pss_one (ps_ret (pe_cmpR op_eq (pe_callBfun cr_gcd (by rfl) B.gcd (pa_cons (pv 0) (pa_cons (pv 1) pa_nil))) pe_int (nomark _))), ?_⟩
    refine ⟨_, rfl, _, rfl, _, _, rfl, rfl, ?_⟩
    show Q (.bl (decide (V.int ((Nat.gcd (n : Int).natAbs M.natAbs : Nat) : Int) = V.int 1))) H
    rw [Int.natAbs_natCast, hg]
    exact q
def spCheckMany : Sp := fun vs H Q _ => ∃ (n : Nat) (M : Int), vs = [.int n, .int M] ∧ 1 ≤ M ∧ M ≤ n ∧ Nat.gcd n M.natAbs = 1 ∧ Q .non H
theorem ok_check_many_round (D : Def K mg "check_many_round" s_check_many_round ["n", "value"]) (D4 : Def K mg "serves_round" s_serves_round ["n", "many"]) (D3 : Def K mg "check_between" s_check_between ["value", "low", "high"]) (D2 : Def K mg "is_whole_between" s_is_whole_between ["value", "low", "high"]) (D1 : Def K mg "is_whole" s_is_whole ["value"]) (B : Blt mg) :
    FnOk P w K mg base CX0 4 D.f D.fd ["n", "value"] spCheckMany := by
  refine D.F.ok sc_check_many_round (fun vs H Q E h => ?_) (fun cdv A outer s H vs Q E hr h => ?_)
  · obtain ⟨n, M, rfl, _⟩ := h
    rfl
  · obtain ⟨n, M, rfl, h1, h2, hg, q⟩ := h
    refine ⟨_, pss_cons (ps_expr (pe_call (ok_check_between D3 D2 D1 B) hr (by rfl) D3.g D3.F.kp D3.b .nil pass0 (pa_cons (pv 1) (pa_cons pe_int (pa_cons (pv 0) pa_nil)))))
      (pss_one (ps_if (pt_not (pt_val (pe_call (ok_serves_round D4 B) (hr.mono (by decide)) (by rfl) D4.g D4.F.kp D4.b .nil pass0 (pa_cons (pv 0) (pa_cons (pv 1) pa_nil))))) (pss_one ps_never) pss_nil)), ?_⟩
    exact ⟨_, rfl, _, rfl, M, 1, (n : Int), rfl, h1, h2, _, rfl, _, rfl, n, M, rfl, hg, true, rfl, iteF q⟩
def spCheckRound : Sp := fun vs H Q _ => ∃ (n : Nat) (t : Addr) (l : List Int), vs = [.int n, .ref t] ∧ 0 < n ∧ n ≤ 60 ∧ TupI H t l ∧ Lot n l ∧ ∀ H', Same H H' → Q .non H'
theorem ok_check_round (D : Def K mg "check_round" s_check_round ["n", "lot"]) (D6 : Def K mg "check_places_round" s_check_places_round ["n"]) (D5 : Def K mg "check_lot" s_check_lot ["n", "value"]) (D4 : Def K mg "wrong_in_lot" s_wrong_in_lot ["n", "value"]) (D3 : Def K mg "check_between" s_check_between ["value", "low", "high"]) (D2 : Def K mg "is_whole_between" s_is_whole_between ["value", "low", "high"]) (D1 : Def K mg "is_whole" s_is_whole ["value"]) (B : Blt mg) :
    FnOk P w K mg base CX0 5 D.f D.fd ["n", "lot"] spCheckRound := by
  refine D.F.ok sc_check_round (fun vs H Q E h => ?_) (fun cdv A outer s H vs Q E hr h => ?_)
  · obtain ⟨n, t, l, rfl, _⟩ := h
    rfl
  · obtain ⟨n, t, l, rfl, h1, h2, ht, hl, q⟩ := h
    refine ⟨_, pss_cons (ps_expr (pe_call (ok_check_places_round D6 D3 D2 D1 B) hr (by rfl) D6.g D6.F.kp D6.b .nil pass0 (pa_cons (pv 0) pa_nil)))
      (pss_one (ps_expr (pe_call (ok_check_lot D5 D4 D2 D1 B) hr (by rfl) D5.g D5.F.kp D5.b .nil pass0 (pa_cons (pv 0) (pa_cons (pv 1) pa_nil))))), ?_⟩
    exact ⟨_, rfl, n, rfl, h1, h2, _, rfl, _, rfl, n, t, l, rfl, ht, hl, q⟩
def spCheckBoth : Sp := fun vs H Q _ => ∃ (t u : Addr) (L M : List (Int × Int)), vs = [.ref t, .ref u] ∧ RowAt H t L ∧ Row L ∧ L.length ≤ 400 ∧ RowAt H u M ∧ Row M ∧ M.length ≤ 400 ∧ ∀ H', Same H H' → Q .non H'
theorem ok_check_both (D : Def K mg "check_both" s_check_both ["row", "other"]) (D4 : Def K mg "check_row" s_check_row ["value"]) (D3 : Def K mg "wrong_in_row" s_wrong_in_row ["value"]) (D2 : Def K mg "is_pair" s_is_pair ["value"]) (D1 : Def K mg "is_whole" s_is_whole ["value"]) (B : Blt mg) :
    FnOk P w K mg base CX0 4 D.f D.fd ["row", "other"] spCheckBoth := by
  have G := ok_check_row (P := P) (w := w) (base := base) D4 D3 D2 D1 B
  refine D.F.ok sc_check_both (fun vs H Q E h => ?_) (fun cdv A outer s H vs Q E hr h => ?_)
  · obtain ⟨t, u, L, M, rfl, _⟩ := h
    rfl
  · obtain ⟨t, u, L, M, rfl, a1, a2, a3, b1, b2, b3, q⟩ := h
    refine ⟨_, pss_cons (ps_expr (pe_call G hr (by rfl) D4.g D4.F.kp D4.b .nil pass0 (pa_cons (pv 0) pa_nil)))
      (pss_one (ps_expr (pe_call G hr (by rfl) D4.g D4.F.kp D4.b .nil pass0 (pa_cons (pv 1) pa_nil)))), ?_⟩
    exact ⟨_, rfl, t, L, rfl, a1, a2, a3, fun H1 sm => ⟨_, rfl, u, M, rfl, b1.same sm, b2, b3, fun H2 sm2 => q H2 (sm.trans sm2)⟩⟩
def spCheckWhole : Sp := fun vs H Q _ => ∃ i : Int, vs = [.int i] ∧ Q .non H
theorem ok_check_whole (D : Def K mg "check_whole" s_check_whole ["value"]) (D1 : Def K mg "is_whole" s_is_whole ["value"]) (B : Blt mg) : FnOk P w K mg base CX0 2 D.f D.fd ["value"] spCheckWhole := by
  refine D.F.ok sc_check_whole (fun vs H Q E h => ?_) (fun cdv A outer s H vs Q E hr h => ?_)
  · obtain ⟨i, rfl, _⟩ := h
    rfl
  · obtain ⟨i, rfl, q⟩ := h
    refine ⟨_, pss_one (ps_if (pt_not (pt_val (pe_call (ok_is_whole D1 B) hr (by rfl) D1.g D1.F.kp D1.b .nil pass0 (pa_cons (pv 0) pa_nil)))) (pss_one ps_never) pss_nil), ?_⟩
    exact ⟨_, rfl, i, rfl, true, rfl, iteF q⟩
def spFew : Sp := fun vs H Q _ => ∃ (t : Addr) (L : List (Int × Int)), vs = [.ref t] ∧ RowAt H t L ∧ L.length ≤ 400 ∧ Q (.ref t) H
theorem ok_few_pairs (D : Def K mg "few_pairs" s_few_pairs ["row"]) (B : Blt mg) : FnOk P w K mg base CX0 1 D.f D.fd ["row"] spFew := by
  obtain ⟨tk, gp⟩ := B.pairs
  refine D.F.ok sc_few_pairs (fun vs H Q E h => ?_) (fun cdv A outer s H vs Q E hr h => ?_)
  · obtain ⟨t, L, rfl, _⟩ := h
    rfl
  · obtain ⟨t, L, rfl, hR, len, q⟩ := h
    obtain ⟨as, ht, cells⟩ := id hR
    refine ⟨_, pss_cons (ps_if (pt_cmpR op_gt (pe_callB call_len_seq (by rfl) B.len (by decide +kernel) (pa_cons (pv 0) pa_nil)) (pe_glob (v := .int 400) rfl gp ⟨_, rfl⟩) (nomark _)) (pss_one ps_never) pss_nil) (pss_one (ps_ret (pv 0))), ?_⟩
    refine ⟨_, rfl, t, _, rfl, .inr (.of ht), _, _, rfl, rfl, false, ?_, iteF ⟨_, rfl, q⟩⟩
    refine congrArg V.bl (decide_eq_false ?_)
    rw [List.length_map, cells.1]
    omega
end
end Sg
set_option Elab.async false
set_option linter.all false
set_option maxRecDepth 100000
set_option maxHeartbeats 4000000
namespace Sg
open PySem PySem.Spec PyProof.Rows L2
theorem ixN_nat {n j : Nat} (h : j < n) : ixN n (j : Int) = some j := by
  unfold ixN
  rw [if_pos (by omega), if_pos (by omega), Int.toNat_natCast]
theorem bump {n : Nat} (hn : 0 < n) (L : List (Int × Int)) (p w : Int) {k : Nat} (hk : p % (n : Int) = (k : Int)) : ((roll n L).map V.int).set k (.int (at_ n L (k : Int) + w)) = (roll n (L ++ [(p, w)])).map V.int := by
  rw [← roll_snoc hn L p w k hk, List.map_set]
theorem roll_len' (n : Nat) (L : List (Int × Int)) : ((roll n L).map V.int).length = n := by rw [List.length_map, roll_length]
theorem emod_nat (p : Int) {n : Nat} (hn : 0 < n) : ∃ k : Nat, p % (n : Int) = (k : Int) ∧ k < n := by
  have h0 := Int.emod_nonneg p (show (n : Int) ≠ 0 by omega)
  have h1 := Int.emod_lt_of_pos p (show (0 : Int) < (n : Int) by omega)
  exact ⟨(p % (n : Int)).toNat, by omega, by omega⟩
section
variable {P : Program} {w : World} {K : PySem.W.Frag} {mg : Str → Option Value} {base : Heap}
/-! ### gaps_round -/
abbrev gp (a b : Int) : Int × Int := (a - b, 1)
def spGaps : Sp := fun vs H Q _ => ∃ (n : Nat) (t : Addr) (l : List Int), vs = [.int n, .ref t] ∧ 0 < n ∧ n ≤ 60 ∧ TupI H t l ∧ ∀ H' p, Same H H' → TupI H' p (roll n (gapsL l l)) → Q (.ref p) H'
theorem ok_gaps_round (D : Def K mg "gaps_round" s_gaps_round ["n", "lot"]) (B : Blt mg) : FnOk P w K mg base CX0 1 D.f D.fd ["n", "lot"] spGaps := by
  refine D.F.ok sc_gaps_round (fun vs H Q E h => ?_) (fun cdv A outer s H vs Q E hr h => ?_)
  · obtain ⟨n, t, l, rfl, _⟩ := h
    rfl
  · obtain ⟨n, t, l, rfl, hn, h60, ht, q⟩ := h
    refine ⟨_, pss_cons (ps_setLc (i := 2) (own := [("_", 5)]) (g := gName 5) (tt := tYes) rfl sc_gaps_round.nd rfl rfl (sw_true rfl rfl rfl (by decide +kernel)) (pi_range1 (by rfl) B.rng (pa_cons (pv 0) pa_nil))
          (blkOk_by (N := ["n", "lot", "found", "one", "two", "_"]) (sc := defScope s_gaps_round) (by decide +kernel)) (fun _ _ _ _ _ => pg_name (i := 5) sc_gaps_round.nd rfl (Or.inl rfl)) (fun _ _ _ _ _ => pts_nil) (fun _ _ _ _ _ => pe_int))
      (pss_cons (ps_for PassesOwn.never rfl (pi_tup (pv 1)) (pg_name (i := 3) sc_gaps_round.nd rfl (.inl rfl))
        (pss_one (ps_for PassesOwn.never rfl (pi_tup (pv 1)) (pg_name (i := 4) sc_gaps_round.nd rfl (.inl rfl))
          (pss_one (ps_augS (pv 2) (pe_op op_mod (pe_op op_sub (pv 3) (pv 4)) (pv 0)) get_list pe_int ip_add set_list)))))
      (pss_one (ps_ret (pe_callTy call_tuple_of (by rfl) B.tup (by decide +kernel) (pa_cons (pv 2) pa_nil))))), ?_⟩
    refine ⟨_, rfl, (n : Int), rfl, by omega, by omega, fun F hF => lc_range (lo := 0) (n := (n : Int).toNat) (fun i H' => Same H H' ∧ LstI H' F (List.replicate i 0)) ⟨same_upd hF, upd_same⟩ ?_ ?_⟩
    · rintro i H1 hi ⟨sm, e⟩
      refine ⟨rfl, _, e, ?_, sput sm hF, ?_⟩
      · rw [List.length_map, List.length_replicate]
        exact small (by omega)
      · show upd H1 F _ F = _
        rw [upd_same, List.replicate_succ', List.map_append]
        rfl
    · rintro H1 ⟨sm, e⟩
      rw [Int.toNat_natCast, ← roll_nil] at e
      refine ⟨_, rfl, t, rfl, ⟨_, .of (sm _ _ ht)⟩, for_tup (K := K) (a := t) (xs := l.map V.int) (fun i σ H' => ∃ y3 y4, σ = [some (.int n), some (.ref t), some (.ref F), y3, y4, none] ∧ Same H H' ∧ LstI H' F (roll n (tens (l.take i) l gp))) ⟨_, _, rfl, sm, e⟩ (fun i σ H' _ h => ?_) ?_ ?_⟩
      · obtain ⟨_, _, _, sm, _⟩ := h
        exact .of (sm _ _ ht)
      · rintro i x σ H2 hx ⟨y3, y4, rfl, sm2, e2⟩
        obtain ⟨a, ha, rfl⟩ := get_int hx
        refine ⟨_, rfl, t, rfl, ⟨_, .of (sm2 _ _ ht)⟩, for_tup (K := K) (a := t) (xs := l.map V.int) (fun j σ H' => ∃ y4, σ = [some (.int n), some (.ref t), some (.ref F), some (.int a), y4, none] ∧ Same H H' ∧ LstI H' F (roll n (tens' l l gp i j a)))
          ⟨_, rfl, sm2, by rw [tens'_zero]; exact e2⟩ (fun j σ H' _ h => ?_) ?_ ?_⟩
        · obtain ⟨_, _, sm, _⟩ := h
          exact .of (sm _ _ ht)
        · rintro j y σ H3 hy ⟨y4, rfl, sm3, e3⟩
          obtain ⟨b, hb, rfl⟩ := get_int hy
          obtain ⟨k, hk, kn⟩ := emod_nat (a - b) hn
          refine ⟨_, rfl, _, rfl, _, rfl, _, _, rfl, rfl, _, rfl, _, _, rfl, rfl, by omega, F, _, k, _, rfl, congrArg V.int hk, .of e3, at_int (roll_get kn), _, _, rfl, rfl, F, _, _, k, rfl, congrArg V.int hk, e3, by rw [roll_len']; exact ixN_nat kn, ?_⟩
          refine ⟨_, rfl, sput sm3 hF, ?_⟩
          rw [tens'_succ hb]
          show upd H3 F _ F = _
          rw [upd_same, bump hn _ (a - b) 1 hk]
        · rintro σ H3 ⟨y4, rfl, sm3, e3⟩
          rw [List.length_map, tens'_full ha] at e3
          exact ⟨_, _, rfl, sm3, e3⟩
      · rintro σ H2 ⟨y3, y4, rfl, sm2, e2⟩
        rw [List.length_map, List.take_length] at e2
        exact ⟨_, rfl, F, _, rfl, .inl ⟨.of e2, fun p hp => q _ p (snew sm2 hp) upd_same⟩⟩
end
end Sg
set_option Elab.async false
set_option linter.all false
set_option maxRecDepth 100000
set_option maxHeartbeats 4000000
namespace Sg
open PySem PySem.Spec PyProof.Rows L2
theorem rep_zero (k : Nat) : (List.replicate k [V.int 0]).flatten = (List.replicate k (0 : Int)).map V.int := by
  induction k with
  | zero => rfl
  | succ k ih => rw [List.replicate_succ, List.flatten_cons, ih, List.replicate_succ, List.map_cons]; rfl
theorem rep_roll {k : Nat} : (List.replicate k [V.int 0]).flatten = (roll k []).map V.int := by rw [rep_zero, roll_nil]
section
variable {P : Program} {w : World} {K : PySem.W.Frag} {mg : Str → Option Value} {base : Heap}
/-! ### rolled_by -/
def spRolled : Sp := fun vs H Q _ => ∃ (n : Nat) (t : Addr) (L : List (Int × Int)), vs = [.int n, .ref t] ∧ 0 < n ∧ n ≤ 60 ∧ RowAt H t L ∧ ∀ H' p, Same H H' → TupI H' p (roll n L) → Q (.ref p) H'
theorem ok_rolled_by (D : Def K mg "rolled_by" s_rolled_by ["n", "row"]) (B : Blt mg) : FnOk P w K mg base CX0 1 D.f D.fd ["n", "row"] spRolled := by
  refine D.F.ok sc_rolled_by (fun vs H Q E h => ?_) (fun cdv A outer s H vs Q E hr h => ?_)
  · obtain ⟨n, t, l, rfl, _⟩ := h
    rfl
  · obtain ⟨n, t, L, rfl, hn, h60, ⟨as, ht, cells⟩, q⟩ := h
    refine ⟨_, pss_cons (ps_setLc (i := 2) (own := [("_", 5)]) (g := gName 5) (tt := tYes) rfl sc_rolled_by.nd rfl rfl (sw_true rfl rfl rfl (by decide +kernel)) (pi_range1 (by rfl) B.rng (pa_cons (pv 0) pa_nil))
          (blkOk_by (N := ["n", "row", "found", "place", "weight", "_"]) (sc := defScope s_rolled_by) (by decide +kernel)) (fun _ _ _ _ _ => pg_name (i := 5) sc_rolled_by.nd rfl (Or.inl rfl)) (fun _ _ _ _ _ => pts_nil) (fun _ _ _ _ _ => pe_int))
      (pss_cons (ps_for PassesOwn.never rfl (pi_tup (pv 1)) (pg_tup rfl (pgs_cons (pg_name (i := 3) sc_rolled_by.nd rfl (.inl rfl)) (pgs_cons (pg_name (i := 4) sc_rolled_by.nd rfl (.inl rfl)) pgs_nil)))
        (pss_one (ps_augS (pv 2) (pe_op op_mod (pv 3) (pv 0)) get_list (pv 4) ip_add set_list)))
      (pss_one (ps_ret (pe_callTy call_tuple_of (by rfl) B.tup (by decide +kernel) (pa_cons (pv 2) pa_nil))))), ?_⟩
    refine ⟨_, rfl, (n : Int), rfl, by omega, by omega, fun F hF => lc_range (lo := 0) (n := (n : Int).toNat) (fun i H' => Same H H' ∧ LstI H' F (List.replicate i 0)) ⟨same_upd hF, upd_same⟩ ?_ ?_⟩
    · rintro i H1 hi ⟨sm, e⟩
      refine ⟨rfl, _, e, ?_, sput sm hF, ?_⟩
      · rw [List.length_map, List.length_replicate]
        exact small (by omega)
      · show upd H1 F _ F = _
        rw [upd_same, List.replicate_succ', List.map_append]
        rfl
    · rintro H1 ⟨sm, e⟩
      rw [Int.toNat_natCast, ← roll_nil] at e
      refine ⟨_, rfl, t, rfl, ⟨_, .of (sm _ _ ht)⟩, for_tup (K := K) (a := t) (xs := as.map V.ref) (fun i σ H' => ∃ y3 y4, σ = [some (.int n), some (.ref t), some (.ref F), y3, y4, none] ∧ Same H H' ∧ LstI H' F (roll n (L.take i))) ⟨_, _, rfl, sm, e⟩ (fun i σ H' _ h => ?_) ?_ ?_⟩
      · obtain ⟨_, _, _, sm, _⟩ := h
        exact .of (sm _ _ ht)
      · rintro i y σ H2 hy ⟨y3, y4, rfl, sm2, e2⟩
        obtain ⟨a, x, rfl, hx, ea⟩ := cells.at hy
        obtain ⟨k, hk, kn⟩ := emod_nat x.1 hn
        refine ⟨a, _, rfl, .of (sm2 _ _ ea), rfl, _, _, rfl, _, _, rfl, rfl, ?_⟩
        refine ⟨_, rfl, _, rfl, _, rfl, _, _, rfl, rfl, by omega, F, _, k, _, rfl, congrArg V.int hk, .of e2, at_int (roll_get kn), _, rfl, _, _, rfl, rfl, F, _, _, k, rfl, congrArg V.int hk, e2, by rw [roll_len']; exact ixN_nat kn, ?_⟩
        refine ⟨_, _, rfl, sput sm2 hF, ?_⟩
        rw [take_more hx]
        show upd H2 F _ F = _
        rw [upd_same, bump hn _ x.1 x.2 hk]
      · rintro σ H2 ⟨y3, y4, rfl, sm2, e2⟩
        rw [List.length_map, cells.1, List.take_length] at e2
        exact ⟨_, rfl, F, _, rfl, .inl ⟨.of e2, fun p hp => q _ p (snew sm2 hp) upd_same⟩⟩
/-! ### the law's own: _law_round -/
theorem ok_law_round (D : Def K mg "_law_round" s_law_round ["_law_many", "_law_lot_here"]) (B : Blt mg) : FnOk P w K mg base CX0 1 D.f D.fd ["_law_many", "_law_lot_here"] spGaps := by
  refine D.F.ok sc_law_round (fun vs H Q E h => ?_) (fun cdv A outer s H vs Q E hr h => ?_)
  · obtain ⟨n, t, l, rfl, _⟩ := h
    rfl
  · obtain ⟨n, t, l, rfl, hn, h60, ht, q⟩ := h
    refine ⟨_, pss_cons (ps_set (i := 2) sc_law_round.nd rfl (.inl rfl) (pe_op op_rep (pe_lst (pa_cons pe_int pa_nil)) (pv 0)))
      (pss_cons (ps_for PassesOwn.never rfl (pi_tup (pv 1)) (pg_name (i := 3) sc_law_round.nd rfl (.inl rfl))
        (pss_one (ps_for PassesOwn.never rfl (pi_tup (pv 1)) (pg_name (i := 4) sc_law_round.nd rfl (.inl rfl))
          (pss_one (ps_asg (pe_op op_add (pe_ix ix_list (pv 2) (pe_op op_mod (pe_callTy call_int1 (by rfl) B.int (by decide +kernel) (pa_cons (pe_op op_sub (pv 3) (pv 4)) pa_nil)) (pv 0)) (fun _ _ => rfl)) pe_int)
            (pg_sub (pv 2) (pe_op op_mod (pe_callTy call_int1 (by rfl) B.int (by decide +kernel) (pa_cons (pe_op op_sub (pv 3) (pv 4)) pa_nil)) (pv 0)) set_list))))))
      (pss_one (ps_ret (pe_callTy call_tuple_of (by rfl) B.tup (by decide +kernel) (pa_cons (pv 2) pa_nil))))), ?_⟩
    refine ⟨by decide, fun Z hZ => ⟨_, rfl, Z, (n : Int), [.int 0], rfl, rfl, upd_same, by omega, by omega, ?_, fun F hF' => ?_⟩⟩
    · rw [Int.toNat_natCast]
      exact small' (by show 1 * n ≤ 4000; omega)
    have sm : Same H (upd (upd H Z (.lst [.int 0])) F (.lst (List.replicate (n : Int).toNat [V.int 0]).flatten)) := snew (same_upd hZ) hF'
    have hF : H F = none := by
      cases z : H F with
      | none => rfl
      | some u => rw [(same_upd hZ) _ _ z] at hF'; cases hF'
    have e : (upd (upd H Z (.lst [.int 0])) F (.lst (List.replicate (n : Int).toNat [V.int 0]).flatten)) F = some (.lst ((roll n (tens (l.take 0) l gp)).map V.int)) := by
      rw [upd_same, Int.toNat_natCast, rep_roll]
      rfl
    refine ⟨_, rfl, t, rfl, ⟨_, .of (sm _ _ ht)⟩, for_tup (K := K) (a := t) (xs := l.map V.int) (fun i σ H' => ∃ y3 y4, σ = [some (.int n), some (.ref t), some (.ref F), y3, y4] ∧ Same H H' ∧ LstI H' F (roll n (tens (l.take i) l gp))) ⟨_, _, rfl, sm, e⟩ (fun i σ H' _ h => ?_) ?_ ?_⟩
    · obtain ⟨_, _, _, sm, _⟩ := h
      exact .of (sm _ _ ht)
    · rintro i x σ H2 hx ⟨y3, y4, rfl, sm2, e2⟩
      obtain ⟨a, ha, rfl⟩ := get_int hx
      refine ⟨_, rfl, t, rfl, ⟨_, .of (sm2 _ _ ht)⟩, for_tup (K := K) (a := t) (xs := l.map V.int) (fun j σ H' => ∃ y4, σ = [some (.int n), some (.ref t), some (.ref F), some (.int a), y4] ∧ Same H H' ∧ LstI H' F (roll n (tens' l l gp i j a)))
        ⟨_, rfl, sm2, by rw [tens'_zero]; exact e2⟩ (fun j σ H' _ h => ?_) ?_ ?_⟩
      · obtain ⟨_, _, sm, _⟩ := h
        exact .of (sm _ _ ht)
      · rintro j y σ H3 hy ⟨y4, rfl, sm3, e3⟩
        obtain ⟨b, hb, rfl⟩ := get_int hy
        obtain ⟨k, hk, kn⟩ := emod_nat (a - b) hn
        have g : atI ((roll n (tens' l l gp i j a)).map V.int) ((a - b) % (n : Int)) = some (.int (at_ n (tens' l l gp i j a) (k : Int))) := by
          rw [hk]
          exact atI_nat (at_int (roll_get kn))
        refine ⟨_, rfl, _, rfl, _, rfl, _, _, rfl, rfl, .inl ⟨a - b, rfl, _, rfl, _, _, rfl, rfl, by omega, F, _, _, _, rfl, rfl, .of e3, g, _, _, rfl, rfl, ?_⟩⟩
        refine ⟨_, rfl, _, rfl, _, rfl, _, _, rfl, rfl, .inl ⟨a - b, rfl, _, rfl, _, _, rfl, rfl, by omega, F, _, _, k, rfl, congrArg V.int hk, e3, by rw [roll_len']; exact ixN_nat kn, ?_⟩⟩
        refine ⟨_, rfl, sput sm3 hF, ?_⟩
        rw [tens'_succ hb]
        show upd H3 F _ F = _
        rw [upd_same, bump hn _ (a - b) 1 hk]
      · rintro σ H3 ⟨y4, rfl, sm3, e3⟩
        rw [List.length_map, tens'_full ha] at e3
        exact ⟨_, _, rfl, sm3, e3⟩
    · rintro σ H2 ⟨y3, y4, rfl, sm2, e2⟩
      rw [List.length_map, List.take_length] at e2
      exact ⟨_, rfl, F, _, rfl, .inl ⟨.of e2, fun p hp => q _ p (snew sm2 hp) upd_same⟩⟩
/-! ### _law_rolled -/
theorem ok_law_rolled (D : Def K mg "_law_rolled" s_law_rolled ["_law_n", "_law_row_here"]) (B : Blt mg) : FnOk P w K mg base CX0 1 D.f D.fd ["_law_n", "_law_row_here"] spRolled := by
  refine D.F.ok sc_law_rolled (fun vs H Q E h => ?_) (fun cdv A outer s H vs Q E hr h => ?_)
  · obtain ⟨n, t, l, rfl, _⟩ := h
    rfl
  · obtain ⟨n, t, L, rfl, hn, h60, ⟨as, ht, cells⟩, q⟩ := h
    refine ⟨_, pss_cons (ps_set (i := 2) sc_law_rolled.nd rfl (.inl rfl) (pe_op op_rep (pe_lst (pa_cons pe_int pa_nil)) (pv 0)))
      (pss_cons (ps_for PassesOwn.never rfl (pi_tup (pv 1)) (pg_tup rfl (pgs_cons (pg_name (i := 3) sc_law_rolled.nd rfl (.inl rfl)) (pgs_cons (pg_name (i := 4) sc_law_rolled.nd rfl (.inl rfl)) pgs_nil)))
          (pss_one (ps_asg (pe_op op_add (pe_ix ix_list (pv 2) (pe_op op_mod (pe_callTy call_int1 (by rfl) B.int (by decide +kernel) (pa_cons (pv 3) pa_nil)) (pv 0)) (fun _ _ => rfl)) (pv 4))
            (pg_sub (pv 2) (pe_op op_mod (pe_callTy call_int1 (by rfl) B.int (by decide +kernel) (pa_cons (pv 3) pa_nil)) (pv 0)) set_list))))
      (pss_one (ps_ret (pe_callTy call_tuple_of (by rfl) B.tup (by decide +kernel) (pa_cons (pv 2) pa_nil))))), ?_⟩
    refine ⟨by decide, fun Z hZ => ⟨_, rfl, Z, (n : Int), [.int 0], rfl, rfl, upd_same, by omega, by omega, ?_, fun F hF' => ?_⟩⟩
    · rw [Int.toNat_natCast]
      exact small' (by show 1 * n ≤ 4000; omega)
    have sm : Same H (upd (upd H Z (.lst [.int 0])) F (.lst (List.replicate (n : Int).toNat [V.int 0]).flatten)) := snew (same_upd hZ) hF'
    have hF : H F = none := by
      cases z : H F with
      | none => rfl
      | some u => rw [(same_upd hZ) _ _ z] at hF'; cases hF'
    have e : (upd (upd H Z (.lst [.int 0])) F (.lst (List.replicate (n : Int).toNat [V.int 0]).flatten)) F = some (.lst ((roll n (L.take 0)).map V.int)) := by
      rw [upd_same, Int.toNat_natCast, rep_roll]
      rfl
    refine ⟨_, rfl, t, rfl, ⟨_, .of (sm _ _ ht)⟩, for_tup (K := K) (a := t) (xs := as.map V.ref) (fun i σ H' => ∃ y3 y4, σ = [some (.int n), some (.ref t), some (.ref F), y3, y4] ∧ Same H H' ∧ LstI H' F (roll n (L.take i))) ⟨_, _, rfl, sm, e⟩ (fun i σ H' _ h => ?_) ?_ ?_⟩
    · obtain ⟨_, _, _, sm, _⟩ := h
      exact .of (sm _ _ ht)
    · rintro i y σ H2 hy ⟨y3, y4, rfl, sm2, e2⟩
      obtain ⟨a, x, rfl, hx, ea⟩ := cells.at hy
      obtain ⟨k, hk, kn⟩ := emod_nat x.1 hn
      have g : atI ((roll n (L.take i)).map V.int) (x.1 % (n : Int)) = some (.int (at_ n (L.take i) (k : Int))) := by
        rw [hk]
        exact atI_nat (at_int (roll_get kn))
      refine ⟨a, _, rfl, .of (sm2 _ _ ea), rfl, _, _, rfl, _, _, rfl, rfl, ?_⟩
      refine ⟨_, rfl, _, rfl, .inl ⟨x.1, rfl, _, rfl, _, _, rfl, rfl, by omega, F, _, _, _, rfl, rfl, .of e2, g, _, rfl, _, _, rfl, rfl, ?_⟩⟩
      refine ⟨_, rfl, _, rfl, .inl ⟨x.1, rfl, _, rfl, _, _, rfl, rfl, by omega, F, _, _, k, rfl, congrArg V.int hk, e2, by rw [roll_len']; exact ixN_nat kn, ?_⟩⟩
      refine ⟨_, _, rfl, sput sm2 hF, ?_⟩
      rw [take_more hx]
      show upd H2 F _ F = _
      rw [upd_same, bump hn _ x.1 x.2 hk]
    · rintro σ H2 ⟨y3, y4, rfl, sm2, e2⟩
      rw [List.length_map, cells.1, List.take_length] at e2
      exact ⟨_, rfl, F, _, rfl, .inl ⟨.of e2, fun p hp => q _ p (snew sm2 hp) upd_same⟩⟩
end
end Sg
set_option Elab.async false
set_option linter.all false
set_option maxRecDepth 100000
set_option maxHeartbeats 4000000
namespace Sg
open PySem PySem.Spec PyProof.Rows L2
theorem getD_at {A : List Int} {k : Nat} (h : k < A.length) : A[k]? = some (A.getD k 0) := by
  rw [List.getD_eq_getElem?_getD, List.getElem?_eq_getElem h]; rfl
theorem getD_all {A : List Int} {B : Nat} (h : ∀ x ∈ A, x.natAbs < 2 ^ B) {k : Nat} (hk : k < A.length) : (A.getD k 0).natAbs < 2 ^ B := h _ (List.mem_of_getElem? (getD_at hk))
theorem range_at {n i : Nat} (h : i < n) : (List.range n)[i]? = some i := by rw [List.getElem?_range h]
section
variable {P : Program} {w : World} {K : PySem.W.Frag} {mg : Str → Option Value} {base : Heap}
abbrev tmf (A B : List Int) (s : Int) (k j : Nat) : Int × Int := ((k : Int) + s * (j : Int), A.getD k 0 * B.getD j 0)
def spTimes : Sp := fun vs H Q _ => ∃ (t u : Addr) (A B : List Int) (s : Int), vs = [.ref t, .ref u, .int s] ∧ TupI H t A ∧ TupI H u B ∧ 0 < A.length ∧ A.length ≤ 60 ∧ B.length ≤ 60 ∧ -1 ≤ s ∧ s ≤ 1 ∧ (∀ x ∈ A, x.natAbs < 2 ^ 100) ∧ (∀ x ∈ B, x.natAbs < 2 ^ 100) ∧
  ∀ H' p, Same H H' → TupI H' p (roll A.length (timesL A B s)) → Q (.ref p) H'
theorem ok_law_times_round (D : Def K mg "_law_times_round" s_law_times_round ["_law_one", "_law_other", "_law_sign"]) (Bl : Blt mg) : FnOk P w K mg base CX0 1 D.f D.fd ["_law_one", "_law_other", "_law_sign"] spTimes := by
  refine D.F.ok sc_law_times_round (fun vs H Q E h => ?_) (fun cdv Ar outer sh H vs Q E hr h => ?_)
  · obtain ⟨t, u, A, B, s, rfl, _⟩ := h
    rfl
  · obtain ⟨t, u, A, B, s, rfl, ht, hu, hA0, hA, hB, s0, s1, bA, bB, q⟩ := h
    refine ⟨_, pss_cons (ps_set (i := 3) sc_law_times_round.nd rfl (.inl rfl) (pe_op op_rep (pe_lst (pa_cons pe_int pa_nil)) (pe_callB call_len_seq (by rfl) Bl.len (by decide +kernel) (pa_cons (pv 0) pa_nil))))
      (pss_cons (ps_for PassesOwn.never rfl (pi_range1 (by rfl) Bl.rng (pa_cons (pe_callB call_len_seq (by rfl) Bl.len (by decide +kernel) (pa_cons (pv 0) pa_nil)) pa_nil)) (pg_name (i := 4) sc_law_times_round.nd rfl (.inl rfl))
        (pss_one (ps_for PassesOwn.never rfl (pi_range1 (by rfl) Bl.rng (pa_cons (pe_callB call_len_seq (by rfl) Bl.len (by decide +kernel) (pa_cons (pv 1) pa_nil)) pa_nil)) (pg_name (i := 5) sc_law_times_round.nd rfl (.inl rfl))
          (pss_cons (ps_set (i := 6) sc_law_times_round.nd rfl (.inl rfl) (pe_op op_mod (pe_callTy call_int1 (by rfl) Bl.int (by decide +kernel) (pa_cons (pe_op op_add (pv 4) (pe_op op_mul (pv 2) (pv 5))) pa_nil)) (pe_callB call_len_seq (by rfl) Bl.len (by decide +kernel) (pa_cons (pv 0) pa_nil))))
          (pss_one (ps_asg (pe_op op_add (pe_ix ix_list (pv 3) (pv 6) (fun _ _ => rfl)) (pe_op op_mulW (pe_ix ix_tup (pv 0) (pv 4) (fun _ _ => rfl)) (pe_ix ix_tup (pv 1) (pv 5) (fun _ _ => rfl)))) (pg_sub (pv 3) (pv 6) set_list)))))))
      (pss_one (ps_ret (pe_callTy call_tuple_of (by rfl) Bl.tup (by decide +kernel) (pa_cons (pv 3) pa_nil))))), ?_⟩
    have lA : (A.map V.int).length = A.length := List.length_map _
    have lB : (B.map V.int).length = B.length := List.length_map _
    refine ⟨by decide, fun Z hZ => ⟨_, rfl, t, _, rfl, .inr (.of (same_upd hZ _ _ ht)), Z, _, [.int 0], rfl, rfl, upd_same, by omega, by omega, ?_, fun F hF' => ?_⟩⟩
    · rw [Int.toNat_natCast]
      exact small' (by show 1 * _ ≤ 4000; omega)
    have sm : Same H (upd (upd H Z (.lst [.int 0])) F (.lst (List.replicate (((A.map V.int).length : Nat) : Int).toNat [V.int 0]).flatten)) := snew (same_upd hZ) hF'
    have hF : H F = none := by
      cases z : H F with
      | none => rfl
      | some u => rw [(same_upd hZ) _ _ z] at hF'; cases hF'
    have e : (upd (upd H Z (.lst [.int 0])) F (.lst (List.replicate (((A.map V.int).length : Nat) : Int).toNat [V.int 0]).flatten)) F = some (.lst ((roll A.length (tens ((List.range A.length).take 0) (List.range B.length) (tmf A B s))).map V.int)) := by
      rw [upd_same, Int.toNat_natCast, lA, rep_roll]
      rfl
    refine ⟨_, rfl, t, _, rfl, .inr (.of (sm _ _ ht)), _, rfl, by omega, by omega, for_range (lo := 0) (n := (((A.map V.int).length : Nat) : Int).toNat) (fun i σ H' => ∃ y4 y5 y6, σ = [some (.ref t), some (.ref u), some (.int s), some (.ref F), y4, y5, y6] ∧ Same H H' ∧ LstI H' F (roll A.length (tens ((List.range A.length).take i) (List.range B.length) (tmf A B s))))
      ⟨_, _, _, rfl, sm, e⟩ ?_ ?_⟩
    · rintro i σ H2 hi ⟨y4, y5, y6, rfl, sm2, e2⟩
      rw [Int.toNat_natCast, lA] at hi
      have ri := range_at hi
      have bi := getD_all bA hi
      have ai := getD_at hi
      rw [Int.zero_add]
      refine ⟨_, rfl, u, _, rfl, .inr (.of (sm2 _ _ hu)), _, rfl, by omega, by omega, for_range (lo := 0) (n := (((B.map V.int).length : Nat) : Int).toNat) (fun j σ H' => ∃ y5 y6, σ = [some (.ref t), some (.ref u), some (.int s), some (.ref F), some (.int (i : Int)), y5, y6] ∧ Same H H' ∧ LstI H' F (roll A.length (tens' (List.range A.length) (List.range B.length) (tmf A B s) i j i)))
        ⟨_, _, rfl, sm2, by rw [tens'_zero]; exact e2⟩ ?_ ?_⟩
      · rintro j σ H3 hj ⟨y5, y6, rfl, sm3, e3⟩
        rw [Int.toNat_natCast, lB] at hj
        have rj := range_at hj
        have bj := getD_all bB hj
        have aj := getD_at hj
        rw [Int.zero_add]
        obtain ⟨c, hc, cn⟩ := emod_nat ((i : Int) + s * (j : Int)) hA0
        have hc' : ((i : Int) + s * (j : Int)) % (((A.map V.int).length : Nat) : Int) = (c : Int) := by rw [lA]; exact hc
        refine ⟨_, rfl, _, rfl, _, rfl, _, _, rfl, rfl, .inl ⟨by omega, by omega⟩, _, _, rfl, rfl, .inl ⟨_, rfl, _, rfl, t, _, rfl, .inr (.of (sm3 _ _ ht)), _, _, rfl, rfl, by omega, ?_⟩⟩
        have g : atI ((roll A.length (tens' (List.range A.length) (List.range B.length) (tmf A B s) i j i)).map V.int) (((i : Int) + s * (j : Int)) % (((A.map V.int).length : Nat) : Int)) = some (.int (at_ A.length (tens' (List.range A.length) (List.range B.length) (tmf A B s) i j i) (c : Int))) := by
          rw [hc']
          exact atI_nat (at_int (roll_get cn))
        refine ⟨_, rfl, _, rfl, F, _, _, _, rfl, rfl, .of e3, g, _, rfl, _, rfl, t, _, _, _, rfl, rfl, .of (sm3 _ _ ht), atI_nat (at_int ai), _, rfl, _, rfl, u, _, _, _, rfl, rfl, .of (sm3 _ _ hu), atI_nat (at_int aj),
          _, _, rfl, rfl, wide_mul bi bj (by decide) (by decide) (by decide), _, _, rfl, rfl, ?_⟩
        refine ⟨_, rfl, _, rfl, F, _, _, c, rfl, rfl, e3, by rw [roll_len', hc']; exact ixN_nat cn, ?_⟩
        refine ⟨_, _, rfl, sput sm3 hF, ?_⟩
        rw [tens'_succ rj]
        show upd H3 F _ F = _
        rw [upd_same, bump hA0 _ ((i : Int) + s * (j : Int)) (A.getD i 0 * B.getD j 0) hc]
      · rintro σ H3 ⟨y5, y6, rfl, sm3, e3⟩
        rw [Int.toNat_natCast, lB] at e3
        have full := tens'_full (B := List.range B.length) (f := tmf A B s) ri
        rw [List.length_range] at full
        rw [full] at e3
        exact ⟨_, _, _, rfl, sm3, e3⟩
    · rintro σ H2 ⟨y4, y5, y6, rfl, sm2, e2⟩
      rw [Int.toNat_natCast, lA, List.take_of_length_le (by rw [List.length_range]; exact Nat.le_refl _)] at e2
      exact ⟨_, rfl, F, _, rfl, .inl ⟨.of e2, fun p hp => q _ p (snew sm2 hp) upd_same⟩⟩
end
end Sg
set_option Elab.async false
set_option linter.all false
set_option maxRecDepth 100000
set_option maxHeartbeats 4000000
namespace Sg
open PySem PySem.Spec PyProof.Rows L2
/-! ### a dict of sums as the layer holds it -/
def enc (D : List (Int × Int)) : List (Key × V) := D.map fun x => (Sum.inl x.1, V.int x.2)
theorem inl_iff {a b : Int} : ((Sum.inl a : Key) = Sum.inl b) ↔ a = b := ⟨fun h => Sum.inl.inj h, fun h => by rw [h]⟩
theorem dec_inl (a b : Int) : decide ((Sum.inl a : Key) = Sum.inl b) = decide (a = b) := decide_eq_decide.mpr inl_iff
theorem enc_val (D : List (Int × Int)) (k : Int) : valV (enc D) (Sum.inl k) = (look D k).map V.int := by
  induction D with
  | nil => rfl
  | cons x D ih =>
    have e : enc (x :: D) = (Sum.inl x.1, V.int x.2) :: enc D := rfl
    rw [e]
    by_cases h : x.1 = k
    · rw [valV_pos (inl_iff.mpr h)]
      unfold look
      rw [List.find?_cons, decide_eq_true h]
      rfl
    · rw [valV_neg (fun q => h (inl_iff.mp q)), ih]
      unfold look
      rw [List.find?_cons, decide_eq_false h]
theorem enc_any (D : List (Int × Int)) (k : Int) : ((enc D).any fun kv => decide (kv.1 = Sum.inl k)) = D.any fun x => decide (x.1 = k) := by
  unfold enc
  rw [List.any_map]
  congr 1
  funext x
  exact dec_inl _ _
theorem enc_put (D : List (Int × Int)) (k v : Int) : putK (enc D) (Sum.inl k) (.int v) = enc (put D k v) := by
  unfold putK put
  rw [enc_any]
  split
  · unfold enc
    rw [List.map_map, List.map_map]
    refine List.map_congr_left fun x _ => ?_
    show (if (Sum.inl x.1 : Key) = Sum.inl k then ((Sum.inl x.1 : Key), V.int v) else (Sum.inl x.1, V.int x.2)) = (Sum.inl (if x.1 = k then (x.1, v) else x).1, V.int (if x.1 = k then (x.1, v) else x).2)
    by_cases h : x.1 = k
    · rw [if_pos (inl_iff.mpr h), if_pos h]
    · rw [if_neg (fun q => h (inl_iff.mp q)), if_neg h]
  · unfold enc
    rw [List.map_append]
    rfl
theorem enc_len (D : List (Int × Int)) : (enc D).length = D.length := List.length_map _
theorem enc_keys (D : List (Int × Int)) : (enc D).map (·.1) = (D.map (·.1)).map Sum.inl := by
  unfold enc
  rw [List.map_map, List.map_map]
  rfl
/-- the part of a dict's row that is made behind i keys -/
def rowPart (D : List (Int × Int)) (i : Nat) : List (Int × Int) := (((srt (D.map (·.1))).take i).map fun k => (k, (look D k).getD 0)).filter fun x => decide (x.2 ≠ 0)
theorem rowPart_succ {D : List (Int × Int)} {i : Nat} {k : Int} (h : (srt (D.map (·.1)))[i]? = some k) : rowPart D (i + 1) = if (look D k).getD 0 ≠ 0 then rowPart D i ++ [(k, (look D k).getD 0)] else rowPart D i := by
  unfold rowPart
  rw [take_more h, List.map_append, List.filter_append]
  by_cases z : (look D k).getD 0 ≠ 0
  · rw [if_pos z, List.map_singleton, List.filter_cons_of_pos (p := fun x : Int × Int => decide (x.2 ≠ 0)) (by exact decide_eq_true z)]
    rfl
  · rw [if_neg z, List.map_singleton, List.filter_cons_of_neg (p := fun x : Int × Int => decide (x.2 ≠ 0)) (by exact fun e => z (of_decide_eq_true e)), List.filter_nil, List.append_nil]
theorem rowPart_full (D : List (Int × Int)) : rowPart D (srt (D.map (·.1))).length = rowOf D := by
  unfold rowPart rowOf
  rw [List.take_length]
theorem rowPart_len (D : List (Int × Int)) (i : Nat) : (rowPart D i).length ≤ D.length := by
  unfold rowPart
  refine Nat.le_trans (List.length_filter_le _ _) ?_
  rw [List.length_map, List.length_take, srt_length, List.length_map]
  omega
section
variable {P : Program} {w : World} {K : PySem.W.Frag} {mg : Str → Option Value} {base : Heap}
/-! ### row_of_sums -/
def spRowOfSums : Sp := fun vs H Q _ => ∃ (d : Addr) (D : List (Int × Int)), vs = [.ref d] ∧ H d = some (.dK (enc D)) ∧ D.length < 64 ∧ ∀ H' p, Same H H' → RowAt H' p (rowOf D) → Q (.ref p) H'
theorem ok_row_of_sums (Df : Def K mg "row_of_sums" s_row_of_sums ["sums"]) (B : Blt mg) : FnOk P w K mg base CX0 1 Df.f Df.fd ["sums"] spRowOfSums := by
  refine Df.F.ok sc_row_of_sums (fun vs H Q E h => ?_) (fun cdv A outer s H vs Q E hr h => ?_)
  · obtain ⟨d, D, rfl, _⟩ := h
    rfl
  · obtain ⟨d, D, rfl, hd, h64, q⟩ := h
    refine ⟨_, pss_one (ps_ret (pe_callTy call_tuple_of (by rfl) B.tup (by decide +kernel) (pa_cons
      (pe_lc (own := [("place", 1)]) (g := gName 1) (tt := tTest (tOp rNe (tDGet (tVar 0) (tVar 1)) (tC (.int 0)))) rfl sc_row_of_sums.nd (pi_list (pe_callB (call_sortedI rfl) (by rfl) B.srt (by decide +kernel) (pa_cons (pv 0) pa_nil)))
        (blkOk_by (N := ["sums", "place"]) (sc := defScope s_row_of_sums) (by decide +kernel)) (fun _ _ _ _ _ => pg_name (i := 1) sc_row_of_sums.nd rfl (Or.inl rfl))
        (fun _ _ _ _ _ => pts_one (pt_cmpR op_ne (pe_dget (hu_of hr) (pv 0) (pv 1) (fun _ _ => rfl)) pe_int (nomark _)))
        (fun _ _ _ _ _ => pe_tup (pa_cons (pv 1) (pa_cons (pe_dget (hu_of hr) (pv 0) (pv 1) (fun _ _ => rfl)) pa_nil)))) pa_nil))), ?_⟩
    refine ⟨_, rfl, d, _, D.map (·.1), rfl, .inl hd, enc_keys D, by rw [List.length_map]; exact h64, fun ks S perm up hS => ⟨S, rfl, ⟨_, .of upd_same⟩, fun L hL => ?_⟩⟩
    obtain rfl := srt_of perm up
    have sm0 := same_upd (o := .lst ((srt (D.map (·.1))).map V.int)) hS
    have hL0 : H L = none := by
      cases z : H L with
      | none => rfl
      | some u => rw [sm0 _ _ z] at hL; cases hL
    have nSL : S ≠ L := ne_of_none upd_same hL
    refine lc_list (K := K) (a := S) (xs := (srt (D.map (·.1))).map V.int) (fun i H' => Same H H' ∧ H' S = some (.lst ((srt (D.map (·.1))).map V.int)) ∧ ∃ as, H' L = some (.lst (as.map V.ref)) ∧ Cells H' as (rowPart D i))
      ⟨snew sm0 hL, by rw [upd_ne nSL]; exact upd_same, [], upd_same, Cells.nil⟩ (fun i H' _ h => .of h.2.1) ?_ ?_
    · rintro i x H1 hx ⟨sm, eS, as, eL, cells⟩
      obtain ⟨k, hk, rfl⟩ := get_int hx
      have mem : k ∈ D.map (·.1) := (srt_perm _).mem_iff.mp (List.mem_of_getElem? hk)
      obtain ⟨v, hv, _⟩ := look_some mem
      have hd1 : H1 d = some (.dK (enc D)) := sm _ _ hd
      have get : DGet H1 d (.int k) (some (.int v)) := by
        have := DGet.k (k := Sum.inl k) hd1
        rw [enc_val, hv] at this
        exact this
      have step := rowPart_succ hk
      rw [hv] at step
      have len := rowPart_len D i
      refine ⟨rfl, ⟨_, rfl, _, rfl, d, _, rfl, get, rfl, _, rfl, ?_⟩⟩
      by_cases hz : v = 0
      · subst hz
        refine if_f (by decide) ⟨sm, eS, as, eL, ?_⟩
        rw [step, if_neg (show ¬ (some (0 : Int)).getD 0 ≠ 0 from fun q => q rfl)]
        exact cells
      · have hne : (!decide (V.int v = V.int 0)) = true := by
          rw [decide_eq_false (fun e => hz (V.int.inj e))]
          rfl
        refine if_t hne ⟨_, rfl, _, rfl, _, rfl, d, _, rfl, get, by show 2 ≤ sizeLine; decide, fun T hT => ?_⟩
        have nTL : L ≠ T := ne_of_none eL hT
        have nTS : S ≠ T := ne_of_none eS hT
        refine ⟨_, by rw [upd_ne nTL]; exact eL, ?_, ?_⟩
        · rw [List.length_map, cells.1]
          exact small (by omega)
        have smT := same_upd (o := .tup [.int k, .int v]) hT
        have smL : Same H (upd (upd H1 T (.tup [.int k, .int v])) L (.lst (as.map V.ref ++ [V.ref T]))) := sput (snew sm hT) hL0
        refine ⟨smL, ?_, as ++ [T], ?_, ?_⟩
        · rw [upd_ne nSL, upd_ne nTS]
          exact eS
        · rw [upd_same, List.map_append]
          rfl
        · rw [step, if_pos (show (some v).getD 0 ≠ 0 from hz)]
          have stays : ∀ b o, b ≠ L → (upd H1 T (.tup [.int k, .int v])) b = some o → (upd (upd H1 T (.tup [.int k, .int v])) L (.lst (as.map V.ref ++ [V.ref T]))) b = some o := fun b o nb e => by
            rw [upd_ne nb]
            exact e
          have c2 : Cells (upd (upd H1 T (.tup [.int k, .int v])) L (.lst (as.map V.ref ++ [V.ref T]))) as (rowPart D i) := by
            refine ⟨cells.1, fun j y hy => ?_⟩
            obtain ⟨a, a1, a2⟩ := cells.2 j y hy
            exact ⟨a, a1, stays _ _ (ne_of a2 eL (by intro z; cases z)) (smT _ _ a2)⟩
          exact c2.snoc (x := (k, v)) (stays _ _ nTL.symm upd_same)
    · rintro H1 ⟨sm, eS, as, eL, cells⟩
      rw [List.length_map, rowPart_full] at cells
      refine ⟨L, _, rfl, .inl ⟨.of eL, fun p hp => q _ p (snew sm hp) ⟨as, upd_same, cells.same (same_upd hp)⟩⟩⟩
end
end Sg
set_option Elab.async false
set_option linter.all false
set_option maxRecDepth 100000
set_option maxHeartbeats 4000000
namespace Sg
open PySem PySem.Spec PyProof.Rows L2
theorem Cells.rev {H : Hp} {as : List Addr} {L : List (Int × Int)} (h : Cells H as L) : Cells H as.reverse L.reverse := by
  refine ⟨by rw [List.length_reverse, List.length_reverse, h.1], fun i x hx => ?_⟩
  have hi : i < L.length := by
    have := (List.getElem?_eq_some_iff.mp hx).1
    rw [List.length_reverse] at this
    exact this
  rw [List.getElem?_reverse hi] at hx
  obtain ⟨a, h1, h2⟩ := h.2 _ x hx
  exact ⟨a, by rw [List.getElem?_reverse (by rw [h.1]; exact hi), h.1]; exact h1, h2⟩
theorem Cells.keep {H H' : Hp} {as : List Addr} {L : List (Int × Int)} (h : Cells H as L) (s : ∀ b xs, H b = some (.tup xs) → H' b = some (.tup xs)) : Cells H' as L :=
  ⟨h.1, fun i x e => let ⟨a, e1, e2⟩ := h.2 i x e; ⟨a, e1, s _ _ e2⟩⟩
section
variable {P : Program} {w : World} {K : PySem.W.Frag} {mg : Str → Option Value} {base : Heap}
/-! ### row_mirror -/
def spRowMirror : Sp := fun vs H Q _ => ∃ (t : Addr) (L : List (Int × Int)), vs = [.ref t] ∧ RowAt H t L ∧ L.length ≤ 400 ∧ ∀ H' p, Same H H' → RowAt H' p (mir L) → Q (.ref p) H'
theorem ok_row_mirror (Df : Def K mg "row_mirror" s_row_mirror ["row"]) (B : Blt mg) : FnOk P w K mg base CX0 1 Df.f Df.fd ["row"] spRowMirror := by
  refine Df.F.ok sc_row_mirror (fun vs H Q E h => ?_) (fun cdv A outer s H vs Q E hr h => ?_)
  · obtain ⟨t, L, rfl, _⟩ := h
    rfl
  · obtain ⟨t, L, rfl, ⟨as, ht, cells⟩, len, q⟩ := h
    refine ⟨_, pss_one (ps_ret (pe_callTy call_tuple_of (by rfl) B.tup (by decide +kernel) (pa_cons
      (pe_lc (own := [("place", 1), ("weight", 2)]) (g := gTup K 2 (gCons (gName 1) (gCons (gName 2) gNil))) (tt := tYes) rfl sc_row_mirror.nd (pi_tup (pe_revT (pv 0)))
        (blkOk_by (N := ["row", "place", "weight"]) (sc := defScope s_row_mirror) (by decide +kernel)) (fun _ _ _ _ _ => pg_tup rfl (pgs_cons (pg_name (i := 1) sc_row_mirror.nd rfl (Or.inl rfl)) (pgs_cons (pg_name (i := 2) sc_row_mirror.nd rfl (Or.inl rfl)) pgs_nil)))
        (fun _ _ _ _ _ => pts_nil) (fun _ _ _ _ _ => pe_tup (pa_cons (pe_un un_neg (pv 1)) (pa_cons (pv 2) pa_nil)))) pa_nil))), ?_⟩
    refine ⟨_, rfl, t, _, rfl, .of ht, fun R hR => ⟨R, rfl, ⟨_, .of upd_same⟩, fun T hT => ?_⟩⟩
    have sm0 := same_upd (o := .tup (as.map V.ref).reverse) hR
    have hT0 : H T = none := by
      cases z : H T with
      | none => rfl
      | some u => rw [sm0 _ _ z] at hT; cases hT
    have nRT : R ≠ T := ne_of_none upd_same hT
    refine lc_tup (K := K) (a := R) (xs := (as.map V.ref).reverse) (fun i H' => Same H H' ∧ H' R = some (.tup (as.map V.ref).reverse) ∧ ∃ bs, H' T = some (.lst (bs.map V.ref)) ∧ Cells H' bs ((L.reverse.take i).map fun x => (-x.1, x.2)))
      ⟨snew sm0 hT, by rw [upd_ne nRT]; exact upd_same, [], upd_same, Cells.nil⟩ (fun i H' _ h => .of h.2.1) ?_ ?_
    · rintro i y H1 hy ⟨sm, eR, bs, eT, cb⟩
      rw [← List.map_reverse] at hy
      obtain ⟨a, x, rfl, hx, ea⟩ := (cells.rev.same sm).at hy
      refine ⟨a, _, rfl, .of ea, rfl, _, _, rfl, _, _, rfl, rfl, rfl, ?_⟩
      refine ⟨_, rfl, _, rfl, _, rfl, by show 2 ≤ sizeLine; decide, fun C hC => ?_⟩
      have nTC : T ≠ C := ne_of_none eT hC
      have nRC : R ≠ C := ne_of_none eR hC
      refine ⟨_, by rw [upd_ne nTC]; exact eT, ?_, ?_⟩
      · rw [List.length_map, cb.1, List.length_map]
        have := take_le L.reverse i
        rw [List.length_reverse] at this
        exact small (by omega)
      refine ⟨sput (snew sm hC) hT0, by rw [upd_ne nRT, upd_ne nRC]; exact eR, bs ++ [C], by rw [upd_same, List.map_append]; rfl, ?_⟩
      rw [← take_map (f := fun x : Int × Int => (-x.1, x.2)) hx]
      have keep : ∀ b xs, H1 b = some (.tup xs) → (upd (upd H1 C (.tup [.int (-x.1), .int x.2])) T (.lst (bs.map V.ref ++ [V.ref C]))) b = some (.tup xs) := fun b xs e => by
        rw [upd_ne (ne_of e eT (by intro z; cases z)), upd_ne (ne_of_none e hC)]
        exact e
      exact (cb.keep keep).snoc (x := (-x.1, x.2)) (by rw [upd_ne nTC.symm]; exact upd_same)
    · rintro H1 ⟨sm, eR, bs, eT, cb⟩
      rw [List.length_reverse, List.length_map, cells.1, ← List.length_reverse, List.take_length] at cb
      exact ⟨T, _, rfl, .inl ⟨.of eT, fun p hp => q _ p (snew sm hp) ⟨bs, upd_same, cb.same (same_upd hp)⟩⟩⟩
/-! ### row_product -/
abbrev prf (x y : Int × Int) : Int × Int := (x.1 + y.1, x.2 * y.2)
def spRowProduct : Sp := fun vs H Q _ => ∃ (t u : Addr) (L M : List (Int × Int)), vs = [.ref t, .ref u] ∧ RowAt H t L ∧ RowAt H u M ∧ L.length ≤ 7 ∧ M.length ≤ 7 ∧ (∀ x ∈ L, x.2.natAbs < 2 ^ 60) ∧ ∀ H' p, Same H H' → RowAt H' p (prodRow L M) → Q (.ref p) H'
theorem ok_row_product (Df : Def K mg "row_product" s_row_product ["row", "other"]) (D1 : Def K mg "row_of_sums" s_row_of_sums ["sums"]) (B : Blt mg) : FnOk P w K mg base CX0 2 Df.f Df.fd ["row", "other"] spRowProduct := by
  refine Df.F.ok sc_row_product (fun vs H Q E h => ?_) (fun cdv A outer s H vs Q E hr h => ?_)
  · obtain ⟨t, u, L, M, rfl, _⟩ := h
    rfl
  · obtain ⟨t, u, L, M, rfl, ⟨as, ht, ca⟩, ⟨bs, hu, cb⟩, lL, lM, bL, q⟩ := h
    refine ⟨_, pss_cons (ps_set (i := 2) sc_row_product.nd rfl (.inl rfl) pe_dnewK)
      (pss_cons (ps_for PassesOwn.never rfl (pi_tup (pv 0)) (pg_tup rfl (pgs_cons (pg_name (i := 3) sc_row_product.nd rfl (.inl rfl)) (pgs_cons (pg_name (i := 4) sc_row_product.nd rfl (.inl rfl)) pgs_nil)))
        (pss_one (ps_for PassesOwn.never rfl (pi_tup (pv 1)) (pg_tup rfl (pgs_cons (pg_name (i := 5) sc_row_product.nd rfl (.inl rfl)) (pgs_cons (pg_name (i := 6) sc_row_product.nd rfl (.inl rfl)) pgs_nil)))
          (pss_one (ps_dput (hu_of hr) (pv 2) (pe_op op_add (pv 3) (pv 5)) (pe_op op_add (pe_dget2 (hu_of hr) (pv 2) (pe_op op_add (pv 3) (pv 5)) pe_int ⟨rfl, rfl, rfl, rfl⟩) (pe_op op_mul (pv 4) (pv 6))) rfl)))))
      (pss_one (ps_ret (pe_call (ok_row_of_sums D1 B) hr (by rfl) D1.g D1.F.kp D1.b .nil pass0 (pa_cons (pv 2) pa_nil))))), ?_⟩
    refine fun S hS => ⟨_, rfl, t, rfl, ⟨_, .of (same_upd hS _ _ ht)⟩, for_tup (K := K) (a := t) (xs := as.map V.ref) (fun i σ H' => ∃ y3 y4 y5 y6, σ = [some (.ref t), some (.ref u), some (.ref S), y3, y4, y5, y6] ∧ Same H H' ∧ H' S = some (.dK (enc (sums (tens (L.take i) M prf)))))
      ⟨_, _, _, _, rfl, same_upd hS, upd_same⟩ (fun i σ H' _ h => ?_) ?_ ?_⟩
    · obtain ⟨_, _, _, _, _, sm, _⟩ := h
      exact .of (sm _ _ ht)
    · rintro i y σ H1 hy ⟨y3, y4, y5, y6, rfl, sm, eS⟩
      obtain ⟨a, x, rfl, hx, ea⟩ := ca.at hy
      have bx := bL x (List.mem_of_getElem? hx)
      refine ⟨a, _, rfl, .of (sm _ _ ea), rfl, _, _, rfl, _, _, rfl, rfl, ?_⟩
      refine ⟨_, rfl, u, rfl, ⟨_, .of (sm _ _ hu)⟩, for_tup (K := K) (a := u) (xs := bs.map V.ref) (fun j σ H' => ∃ y5 y6, σ = [some (.ref t), some (.ref u), some (.ref S), some (.int x.1), some (.int x.2), y5, y6] ∧ Same H H' ∧ H' S = some (.dK (enc (sums (tens' L M prf i j x)))))
        ⟨_, _, rfl, sm, by rw [tens'_zero]; exact eS⟩ (fun j σ H' _ h => ?_) ?_ ?_⟩
      · obtain ⟨_, _, _, sm, _⟩ := h
        exact .of (sm _ _ hu)
      · rintro j z σ H2 hz ⟨y5, y6, rfl, sm2, eS2⟩
        obtain ⟨b, v, rfl, hv, eb⟩ := cb.at hz
        refine ⟨b, _, rfl, .of (sm2 _ _ eb), rfl, _, _, rfl, _, _, rfl, rfl, ?_⟩
        have get : DGet H2 S (.int (x.1 + v.1)) ((look (sums (tens' L M prf i j x)) (x.1 + v.1)).map V.int) := by
          have := DGet.k (k := Sum.inl (x.1 + v.1)) eS2
          rw [enc_val] at this
          exact this
        have val : ((look (sums (tens' L M prf i j x)) (x.1 + v.1)).map V.int).getD (.int 0) = .int ((look (sums (tens' L M prf i j x)) (x.1 + v.1)).getD 0) := by
          cases look (sums (tens' L M prf i j x)) (x.1 + v.1) <;> rfl
        have len : (enc (sums (tens' L M prf i j x))).length < sizeLine := by
          have h1 := sums_len (tens' L M prf i j x)
          have h2 : (tens' L M prf i j x).length ≤ 7 * 7 + 7 := by
            unfold tens'
            rw [List.length_append, tens_len, List.length_map]
            have a1 := take_le L i
            have a2 := take_le M j
            have a3 := Nat.mul_le_mul (show (L.take i).length ≤ 7 by omega) (show M.length ≤ 7 by omega)
            omega
          rw [enc_len]
          exact small (by omega)
        have put := DPut.k (k := Sum.inl (x.1 + v.1)) (v := .int ((look (sums (tens' L M prf i j x)) (x.1 + v.1)).getD 0 + x.2 * v.2)) eS2 len
        rw [enc_put] at put
        refine ⟨_, rfl, S, rfl, .inl ⟨_, .inl eS2⟩, _, rfl, _, rfl, _, _, rfl, rfl, _, get, _, rfl, _, rfl, _, _, rfl, rfl, .inl ⟨by omega, by omega⟩, _, _, val, rfl, ?_⟩
        refine ⟨_, rfl, _, rfl, _, rfl, _, _, rfl, rfl, S, _, rfl, put, ?_⟩
        refine ⟨_, _, rfl, sput sm2 hS, ?_⟩
        rw [tens'_succ hv, sums_snoc]
        exact upd_same
      · rintro σ H2 ⟨y5, y6, rfl, sm2, eS2⟩
        rw [List.length_map, cb.1, tens'_full hx] at eS2
        exact ⟨_, _, _, _, rfl, sm2, eS2⟩
    · rintro σ H1 ⟨y3, y4, y5, y6, rfl, sm, eS⟩
      rw [List.length_map, ca.1, List.take_length] at eS
      refine ⟨_, rfl, S, _, rfl, eS, ?_, fun H2 p sm2 hp => q H2 p (sm.trans sm2) hp⟩
      have h1 := sums_len (tens L M prf)
      rw [tens_len] at h1
      have := Nat.mul_le_mul lL lM
      omega
end
end Sg
set_option Elab.async false
set_option linter.all false
set_option maxRecDepth 100000
set_option maxHeartbeats 4000000
namespace Sg
open PySem PySem.Spec PyProof.Rows L2
/-- all defs of the text as the top has left them -/
structure Txt (K : PySem.W.Frag) (mg : Str → Option Value) where
  d_is_whole : Def K mg "is_whole" s_is_whole ["value"]
  d_is_whole_between : Def K mg "is_whole_between" s_is_whole_between ["value", "low", "high"]
  d_is_pair : Def K mg "is_pair" s_is_pair ["value"]
  d_wrong_in_row : Def K mg "wrong_in_row" s_wrong_in_row ["value"]
  d_row_of_sums : Def K mg "row_of_sums" s_row_of_sums ["sums"]
  d_row_mirror : Def K mg "row_mirror" s_row_mirror ["row"]
  d_row_product : Def K mg "row_product" s_row_product ["row", "other"]
  d_wrong_in_lot : Def K mg "wrong_in_lot" s_wrong_in_lot ["n", "value"]
  d_serves_round : Def K mg "serves_round" s_serves_round ["n", "many"]
  d_lot_of : Def K mg "lot_of" s_lot_of ["n", "places"]
  d_gaps_round : Def K mg "gaps_round" s_gaps_round ["n", "lot"]
  d_turned_lot : Def K mg "turned_lot" s_turned_lot ["n", "lot", "turn"]
  d_mirrored_lot : Def K mg "mirrored_lot" s_mirrored_lot ["n", "lot"]
  d_multiplied_lot : Def K mg "multiplied_lot" s_multiplied_lot ["n", "lot", "many"]
  d_rolled_by : Def K mg "rolled_by" s_rolled_by ["n", "row"]
  d_check_between : Def K mg "check_between" s_check_between ["value", "low", "high"]
  d_check_places_round : Def K mg "check_places_round" s_check_places_round ["n"]
  d_check_lot : Def K mg "check_lot" s_check_lot ["n", "value"]
  d_check_round : Def K mg "check_round" s_check_round ["n", "lot"]
  d_check_many_round : Def K mg "check_many_round" s_check_many_round ["n", "value"]
  d_check_row : Def K mg "check_row" s_check_row ["value"]
  d_check_both : Def K mg "check_both" s_check_both ["row", "other"]
  d_check_whole : Def K mg "check_whole" s_check_whole ["value"]
  d_few_pairs : Def K mg "few_pairs" s_few_pairs ["row"]
  d_differences_round : Def K mg "differences_round" s_differences_round ["n", "lot"]
  d_turned_round : Def K mg "turned_round" s_turned_round ["n", "lot", "turn"]
  d_mirrored_round : Def K mg "mirrored_round" s_mirrored_round ["n", "lot"]
  d_multiplied : Def K mg "multiplied" s_multiplied ["n", "lot", "many"]
  d_rolled : Def K mg "rolled" s_rolled ["n", "row"]
  d_mirrored : Def K mg "mirrored" s_mirrored ["row"]
  d_product : Def K mg "product" s_product ["row", "other"]
  d_law_spring : Def K mg "_law_spring" s_law_spring ["_law_script", "_law_turn"]
  d_law_draw : Def K mg "_law_draw" s_law_draw ["_law_spring_here", "_law_many"]
  d_law_one_of : Def K mg "_law_one_of" s_law_one_of ["_law_spring_here", "_law_some"]
  d_law_lot : Def K mg "_law_lot" s_law_lot ["_law_spring_here", "_law_many"]
  d_law_round : Def K mg "_law_round" s_law_round ["_law_many", "_law_lot_here"]
  d_law_ring : Def K mg "_law_ring" s_law_ring ["_law_spring_here"]
  d_law_free : Def K mg "_law_free" s_law_free ["_law_n"]
  d_law_row : Def K mg "_law_row" s_law_row ["_law_spring_here"]
  d_law_rolled : Def K mg "_law_rolled" s_law_rolled ["_law_n", "_law_row_here"]
  d_law_times_round : Def K mg "_law_times_round" s_law_times_round ["_law_one", "_law_other", "_law_sign"]
  d_law_lots_right : Def K mg "_law_lots_right" s_law_lots_right ["_law_spring_here", "_law_n"]
  d_law_right : Def K mg "_law_right" s_law_right ["_law_spring_here"]
  d_law : Def K mg "law" s_law ["_law_script"]

section
variable {P : Program} {w : World} {K : PySem.W.Frag} {mg : Str → Option Value} {base : Heap}
theorem T_check_round (T : Txt K mg) (B : Blt mg) : FnOk P w K mg base CX0 5 T.d_check_round.f T.d_check_round.fd ["n", "lot"] spCheckRound :=
  ok_check_round T.d_check_round T.d_check_places_round T.d_check_lot T.d_wrong_in_lot T.d_check_between T.d_is_whole_between T.d_is_whole B
theorem T_check_row (T : Txt K mg) (B : Blt mg) : FnOk P w K mg base CX0 3 T.d_check_row.f T.d_check_row.fd ["value"] spCheckRow :=
  ok_check_row T.d_check_row T.d_wrong_in_row T.d_is_pair T.d_is_whole B
/-! ### the public ones -/
def spDiffRound : Sp := fun vs H Q _ => ∃ (n : Nat) (t : Addr) (l : List Int), vs = [.int n, .ref t] ∧ 0 < n ∧ n ≤ 60 ∧ TupI H t l ∧ Lot n l ∧ ∀ H' p, Same H H' → TupI H' p (roll n (gapsL l l)) → Q (.ref p) H'
theorem ok_differences_round (T : Txt K mg) (B : Blt mg) : FnOk P w K mg base CX0 6 T.d_differences_round.f T.d_differences_round.fd ["n", "lot"] spDiffRound := by
  refine T.d_differences_round.F.ok sc_differences_round (fun vs H Q E h => ?_) (fun cdv A outer s H vs Q E hr h => ?_)
  · obtain ⟨n, t, l, rfl, _⟩ := h
    rfl
  · obtain ⟨n, t, l, rfl, h1, h2, ht, hl, q⟩ := h
    refine ⟨_, pss_cons (ps_expr (pe_call (T_check_round T B) hr (by rfl) T.d_check_round.g T.d_check_round.F.kp T.d_check_round.b .nil pass0 (pa_cons (pv 0) (pa_cons (pv 1) pa_nil))))
      (pss_one (ps_ret (pe_call (ok_gaps_round T.d_gaps_round B) (hr.mono (by decide)) (by rfl) T.d_gaps_round.g T.d_gaps_round.F.kp T.d_gaps_round.b .nil pass0 (pa_cons (pv 0) (pa_cons (pv 1) pa_nil))))), ?_⟩
    exact ⟨_, rfl, _, rfl, n, t, l, rfl, h1, h2, ht, hl, fun H1 sm => ⟨_, rfl, _, rfl, n, t, l, rfl, h1, h2, sm _ _ ht, fun H2 p sm2 hp => q H2 p (sm.trans sm2) hp⟩⟩
theorem ok_turned_round (T : Txt K mg) (B : Blt mg) : FnOk P w K mg base CX0 6 T.d_turned_round.f T.d_turned_round.fd ["n", "lot", "turn"] spTurnedLot := by
  refine T.d_turned_round.F.ok sc_turned_round (fun vs H Q E h => ?_) (fun cdv A outer s H vs Q E hr h => ?_)
  · obtain ⟨n, t, l, M, rfl, _⟩ := h
    rfl
  · obtain ⟨n, t, l, M, rfl, h1, h2, ht, hl, q⟩ := h
    refine ⟨_, pss_cons (ps_expr (pe_call (T_check_round T B) hr (by rfl) T.d_check_round.g T.d_check_round.F.kp T.d_check_round.b .nil pass0 (pa_cons (pv 0) (pa_cons (pv 1) pa_nil))))
      (pss_cons (ps_expr (pe_call (ok_check_whole T.d_check_whole T.d_is_whole B) (hr.mono (by decide)) (by rfl) T.d_check_whole.g T.d_check_whole.F.kp T.d_check_whole.b .nil pass0 (pa_cons (pv 2) pa_nil)))
      (pss_one (ps_ret (pe_call (ok_turned_lot T.d_turned_lot T.d_lot_of B) (hr.mono (by decide)) (by rfl) T.d_turned_lot.g T.d_turned_lot.F.kp T.d_turned_lot.b .nil pass0 (pa_cons (pv 0) (pa_cons (pv 1) (pa_cons (pv 2) pa_nil))))))), ?_⟩
    exact ⟨_, rfl, _, rfl, n, t, l, rfl, h1, h2, ht, hl, fun H1 sm => ⟨_, rfl, M, rfl, _, rfl, _, rfl, _, rfl, n, t, l, M, rfl, h1, h2, sm _ _ ht, hl, fun H2 p sm2 hp => q H2 p (sm.trans sm2) hp⟩⟩
theorem ok_mirrored_round (T : Txt K mg) (B : Blt mg) : FnOk P w K mg base CX0 6 T.d_mirrored_round.f T.d_mirrored_round.fd ["n", "lot"] spMirroredLot := by
  refine T.d_mirrored_round.F.ok sc_mirrored_round (fun vs H Q E h => ?_) (fun cdv A outer s H vs Q E hr h => ?_)
  · obtain ⟨n, t, l, rfl, _⟩ := h
    rfl
  · obtain ⟨n, t, l, rfl, h1, h2, ht, hl, q⟩ := h
    refine ⟨_, pss_cons (ps_expr (pe_call (T_check_round T B) hr (by rfl) T.d_check_round.g T.d_check_round.F.kp T.d_check_round.b .nil pass0 (pa_cons (pv 0) (pa_cons (pv 1) pa_nil))))
      (pss_one (ps_ret (pe_call (ok_mirrored_lot T.d_mirrored_lot T.d_lot_of B) (hr.mono (by decide)) (by rfl) T.d_mirrored_lot.g T.d_mirrored_lot.F.kp T.d_mirrored_lot.b .nil pass0 (pa_cons (pv 0) (pa_cons (pv 1) pa_nil))))), ?_⟩
    exact ⟨_, rfl, _, rfl, n, t, l, rfl, h1, h2, ht, hl, fun H1 sm => ⟨_, rfl, _, rfl, n, t, l, rfl, h1, h2, sm _ _ ht, hl, fun H2 p sm2 hp => q H2 p (sm.trans sm2) hp⟩⟩
def spMultiplied : Sp := fun vs H Q _ => ∃ (n : Nat) (t : Addr) (l : List Int) (M : Int), vs = [.int n, .ref t, .int M] ∧ 0 < n ∧ n ≤ 60 ∧ TupI H t l ∧ Lot n l ∧ 1 ≤ M ∧ M ≤ n ∧ Nat.gcd n M.natAbs = 1 ∧ ∀ H' p, Same H H' → TupI H' p (srt (l.map fun k => (k * M) % (n : Int))) → Q (.ref p) H'
theorem ok_multiplied (T : Txt K mg) (B : Blt mg) : FnOk P w K mg base CX0 6 T.d_multiplied.f T.d_multiplied.fd ["n", "lot", "many"] spMultiplied := by
  refine T.d_multiplied.F.ok sc_multiplied (fun vs H Q E h => ?_) (fun cdv A outer s H vs Q E hr h => ?_)
  · obtain ⟨n, t, l, M, rfl, _⟩ := h
    rfl
  · obtain ⟨n, t, l, M, rfl, h1, h2, ht, hl, m1, m2, mg_, q⟩ := h
    refine ⟨_, pss_cons (ps_expr (pe_call (T_check_round T B) hr (by rfl) T.d_check_round.g T.d_check_round.F.kp T.d_check_round.b .nil pass0 (pa_cons (pv 0) (pa_cons (pv 1) pa_nil))))
      (pss_cons (ps_expr (pe_call (ok_check_many_round T.d_check_many_round T.d_serves_round T.d_check_between T.d_is_whole_between T.d_is_whole B) (hr.mono (by decide)) (by rfl) T.d_check_many_round.g T.d_check_many_round.F.kp T.d_check_many_round.b .nil pass0 (pa_cons (pv 0) (pa_cons (pv 2) pa_nil))))
      (pss_one (ps_ret (pe_call (ok_multiplied_lot T.d_multiplied_lot T.d_lot_of B) (hr.mono (by decide)) (by rfl) T.d_multiplied_lot.g T.d_multiplied_lot.F.kp T.d_multiplied_lot.b .nil pass0 (pa_cons (pv 0) (pa_cons (pv 1) (pa_cons (pv 2) pa_nil))))))), ?_⟩
    exact ⟨_, rfl, _, rfl, n, t, l, rfl, h1, h2, ht, hl, fun H1 sm => ⟨_, rfl, _, rfl, n, M, rfl, m1, m2, mg_, _, rfl, _, rfl, _, rfl, n, t, l, M, rfl, h1, h2, sm _ _ ht, hl, fun H2 p sm2 hp => q H2 p (sm.trans sm2) hp⟩⟩
def spRolledR : Sp := fun vs H Q _ => ∃ (n : Nat) (t : Addr) (L : List (Int × Int)), vs = [.int n, .ref t] ∧ 0 < n ∧ n ≤ 60 ∧ RowAt H t L ∧ Row L ∧ L.length ≤ 400 ∧ ∀ H' p, Same H H' → TupI H' p (roll n L) → Q (.ref p) H'
theorem ok_rolled (T : Txt K mg) (B : Blt mg) : FnOk P w K mg base CX0 5 T.d_rolled.f T.d_rolled.fd ["n", "row"] spRolledR := by
  refine T.d_rolled.F.ok sc_rolled (fun vs H Q E h => ?_) (fun cdv A outer s H vs Q E hr h => ?_)
  · obtain ⟨n, t, l, rfl, _⟩ := h
    rfl
  · obtain ⟨n, t, L, rfl, h1, h2, ht, hl, len, q⟩ := h
    refine ⟨_, pss_cons (ps_expr (pe_call (ok_check_places_round T.d_check_places_round T.d_check_between T.d_is_whole_between T.d_is_whole B) hr (by rfl) T.d_check_places_round.g T.d_check_places_round.F.kp T.d_check_places_round.b .nil pass0 (pa_cons (pv 0) pa_nil)))
      (pss_cons (ps_expr (pe_call (T_check_row T B) (hr.mono (by decide)) (by rfl) T.d_check_row.g T.d_check_row.F.kp T.d_check_row.b .nil pass0 (pa_cons (pv 1) pa_nil)))
      (pss_one (ps_ret (pe_call (ok_rolled_by T.d_rolled_by B) (hr.mono (by decide)) (by rfl) T.d_rolled_by.g T.d_rolled_by.F.kp T.d_rolled_by.b .nil pass0 (pa_cons (pv 0) (pa_cons (pv 1) pa_nil)))))), ?_⟩
    exact ⟨_, rfl, n, rfl, h1, h2, _, rfl, t, L, rfl, ht, hl, len, fun H1 sm => ⟨_, rfl, _, rfl, n, t, L, rfl, h1, h2, ht.same sm, fun H2 p sm2 hp => q H2 p (sm.trans sm2) hp⟩⟩
def spMirroredR : Sp := fun vs H Q _ => ∃ (t : Addr) (L : List (Int × Int)), vs = [.ref t] ∧ RowAt H t L ∧ Row L ∧ L.length ≤ 400 ∧ ∀ H' p, Same H H' → RowAt H' p (mir L) → Q (.ref p) H'
theorem ok_mirrored (T : Txt K mg) (B : Blt mg) : FnOk P w K mg base CX0 4 T.d_mirrored.f T.d_mirrored.fd ["row"] spMirroredR := by
  refine T.d_mirrored.F.ok sc_mirrored (fun vs H Q E h => ?_) (fun cdv A outer s H vs Q E hr h => ?_)
  · obtain ⟨t, L, rfl, _⟩ := h
    rfl
  · obtain ⟨t, L, rfl, ht, hl, len, q⟩ := h
    refine ⟨_, pss_cons (ps_expr (pe_call (T_check_row T B) hr (by rfl) T.d_check_row.g T.d_check_row.F.kp T.d_check_row.b .nil pass0 (pa_cons (pv 0) pa_nil)))
      (pss_one (ps_ret (pe_call (ok_row_mirror T.d_row_mirror B) (hr.mono (by decide)) (by rfl) T.d_row_mirror.g T.d_row_mirror.F.kp T.d_row_mirror.b .nil pass0 (pa_cons (pv 0) pa_nil)))), ?_⟩
    exact ⟨_, rfl, t, L, rfl, ht, hl, len, fun H1 sm => ⟨_, rfl, t, L, rfl, ht.same sm, len, fun H2 p sm2 hp => q H2 p (sm.trans sm2) hp⟩⟩
def spProduct : Sp := fun vs H Q _ => ∃ (t u : Addr) (L M : List (Int × Int)), vs = [.ref t, .ref u] ∧ RowAt H t L ∧ RowAt H u M ∧ Row L ∧ Row M ∧ L.length ≤ 7 ∧ M.length ≤ 7 ∧ (∀ x ∈ L, x.2.natAbs < 2 ^ 60) ∧ ∀ H' p, Same H H' → RowAt H' p (prodRow L M) → Q (.ref p) H'
theorem ok_product (T : Txt K mg) (B : Blt mg) : FnOk P w K mg base CX0 5 T.d_product.f T.d_product.fd ["row", "other"] spProduct := by
  refine T.d_product.F.ok sc_product (fun vs H Q E h => ?_) (fun cdv A outer s H vs Q E hr h => ?_)
  · obtain ⟨t, u, L, M, rfl, _⟩ := h
    rfl
  · obtain ⟨t, u, L, M, rfl, ht, hu, rL, rM, lL, lM, bL, q⟩ := h
    refine ⟨_, pss_cons (ps_expr (pe_call (ok_check_both T.d_check_both T.d_check_row T.d_wrong_in_row T.d_is_pair T.d_is_whole B) hr (by rfl) T.d_check_both.g T.d_check_both.F.kp T.d_check_both.b .nil pass0 (pa_cons (pv 0) (pa_cons (pv 1) pa_nil))))
      (pss_one (ps_ret (pe_call (ok_few_pairs T.d_few_pairs B) (hr.mono (by decide)) (by rfl) T.d_few_pairs.g T.d_few_pairs.F.kp T.d_few_pairs.b .nil pass0 (pa_cons
        (pe_call (ok_row_product T.d_row_product T.d_row_of_sums B) (hr.mono (by decide)) (by rfl) T.d_row_product.g T.d_row_product.F.kp T.d_row_product.b .nil pass0 (pa_cons (pv 0) (pa_cons (pv 1) pa_nil))) pa_nil)))), ?_⟩
    refine ⟨_, rfl, _, rfl, t, u, L, M, rfl, ht, rL, by omega, hu, rM, by omega, fun H1 sm => ⟨_, rfl, _, rfl, t, u, L, M, rfl, ht.same sm, hu.same sm, lL, lM, bL, fun H2 p sm2 hp => ⟨p, prodRow L M, rfl, hp, ?_, q H2 p (sm.trans sm2) hp⟩⟩⟩
    have := prod_len L M
    have := Nat.mul_le_mul lL lM
    omega
end
end Sg
set_option Elab.async false
set_option linter.all false
set_option maxRecDepth 100000
set_option maxHeartbeats 4000000
namespace Sg
open PySem PySem.Spec PyProof.Rows L2
section
variable {P : Program} {w : World} {K : PySem.W.Frag} {mg : Str → Option Value} {base : Heap}
/-! ### _law_draw: some number from 0 on below many -/
def spDraw : Sp := fun vs H Q _ => ∃ (a : Addr) (m : Int), vs = [.ref a, .int m] ∧ 0 < m ∧ m < 1073741824 ∧ Spr H a ∧ ∀ (H' : Hp) (d : Int), Ex a H H' → Spr H' a → 0 ≤ d → d < m → Q (.int d) H'
theorem ok_law_draw (T : Txt K mg) (B : Blt mg) : FnOk P w K mg base CX0 1 T.d_law_draw.f T.d_law_draw.fd ["_law_spring_here", "_law_many"] spDraw := by
  refine T.d_law_draw.F.ok sc_law_draw (fun vs H Q E h => ?_) (fun cdv A outer s H vs Q E hr h => ?_)
  · obtain ⟨a, m, rfl, _⟩ := h
    rfl
  · obtain ⟨a, m, rfl, m0, m1, ⟨x, y, z, ea⟩, q⟩ := h
    refine ⟨_, pss_cons (ps_if (pt_cmpR op_gt (pe_ix ix_list (pv 0) pe_int (fun _ _ => rfl)) pe_int (nomark _))
        (pss_cons (ps_asg (pe_callB call_divmod (by rfl) B.dmd (by decide +kernel) (pa_cons (pe_ix ix_list (pv 0) pe_int (fun _ _ => rfl)) (pa_cons (pv 1) pa_nil)))
            (pg_tup rfl (pgs_cons (pg_sub (pv 0) pe_int set_list) (pgs_cons (pg_name (i := 2) sc_law_draw.nd rfl (.inl rfl)) pgs_nil))))
          (pss_one (ps_ret (pv 2)))) pss_nil)
      (pss_cons (ps_asg (pe_op op_add (pe_ix ix_list (pv 0) pe_int (fun _ _ => rfl)) pe_int) (pg_sub (pv 0) pe_int set_list))
      (pss_cons (ps_set (i := 3) sc_law_draw.nd rfl (.inl rfl) (pe_op op_mod (pe_callTy call_int1 (by rfl) B.int (by decide +kernel) (pa_cons
          (pe_op op_add (pe_op op_add (pe_op op_mul (pe_ix ix_list (pv 0) pe_int (fun _ _ => rfl)) pe_int) (pe_op op_mul pe_int (pe_ix ix_list (pv 0) pe_int (fun _ _ => rfl)))) pe_int) pa_nil)) pe_int))
      (pss_cons (ps_asg (pe_op op_mod (pe_callTy call_int1 (by rfl) B.int (by decide +kernel) (pa_cons
          (pe_op op_add (pe_op op_mul (pv 3) (pe_op op_add (pe_op op_mod (pe_callTy call_int1 (by rfl) B.int (by decide +kernel) (pa_cons (pv 3) pa_nil)) pe_int) pe_int)) (pe_ix ix_list (pv 0) pe_int (fun _ _ => rfl))) pa_nil)) pe_int) (pg_sub (pv 0) pe_int set_list))
      (pss_one (ps_ret (pe_op op_mod (pe_callTy call_int1 (by rfl) B.int (by decide +kernel) (pa_cons (pe_op op_fdiv (pe_ix ix_list (pv 0) pe_int (fun _ _ => rfl)) pe_int) pa_nil)) (pv 1))))))), ?_⟩
    refine ⟨_, rfl, a, _, 0, _, rfl, rfl, .of ea, atI_nat (j := 0) rfl, x, 0, rfl, rfl, _, rfl, ite2 (fun hx => ?_) (fun hx => ?_)⟩
    · refine ⟨_, rfl, a, _, 0, _, rfl, rfl, .of ea, atI_nat (j := 0) rfl, _, rfl, x, m, rfl, ⟨m0, m1⟩, fun p hp => ?_⟩
      have nap : a ≠ p := ne_of_none ea hp
      refine ⟨p, _, rfl, .of upd_same, rfl, _, _, rfl, _, rfl, a, _, 0, 0, rfl, rfl, by rw [upd_ne nap]; exact ea, rfl, _, _, rfl, rfl, ?_⟩
      refine ⟨_, rfl, q _ _ (((Ex.refl a H).new hp).trans .upd) ⟨_, _, _, upd_same⟩ (Int.emod_nonneg _ (by omega)) (Int.emod_lt_of_pos _ m0)⟩
    · refine ⟨_, rfl, a, _, 2, _, rfl, rfl, .of ea, atI_nat (j := 2) rfl, z, 1, rfl, rfl, _, rfl, a, _, 2, 2, rfl, rfl, ea, rfl, ?_⟩
      refine ⟨_, rfl, a, _, 1, _, rfl, rfl, .of upd_same, atI_nat (j := 1) rfl, y, 40692, rfl, rfl, .inr ⟨by decide, by decide⟩, _, rfl, a, _, 2, _, rfl, rfl, .of upd_same, atI_nat (j := 2) rfl, 3791, _, rfl, rfl, .inl ⟨by decide, by decide⟩,
        _, _, rfl, rfl, _, _, rfl, rfl, .inl ⟨_, rfl, _, _, rfl, rfl, (by show (0 : Int) < 2147483399; decide), ?_⟩⟩
      refine ⟨_, rfl, _, rfl, .inl ⟨_, rfl, _, _, rfl, rfl, (by show (0 : Int) < 4099; decide), _, _, rfl, rfl, _, _, rfl, rfl, .inr ?_, _, rfl, a, _, 2, _, rfl, rfl, .of upd_same, atI_nat (j := 2) rfl, _, _, rfl, rfl, .inl ⟨_, rfl, _, _, rfl, rfl, (by show (0 : Int) < 2147483399; decide), ?_⟩⟩⟩
      · constructor
        · have := Int.emod_nonneg ((y * 40692 + 3791 * (z + 1) + 101) % 2147483399) (show (4099 : Int) ≠ 0 by decide)
          omega
        · have := Int.emod_lt_of_pos ((y * 40692 + 3791 * (z + 1) + 101) % 2147483399) (show (0 : Int) < 4099 by decide)
          omega
      refine ⟨_, rfl, a, _, 1, 1, rfl, rfl, upd_same, rfl, ?_⟩
      refine ⟨_, rfl, a, _, 1, _, rfl, rfl, .of upd_same, atI_nat (j := 1) rfl, _, _, rfl, rfl, ⟨by decide, by decide⟩, .inl ⟨_, rfl, _, rfl, _, _, rfl, rfl, m0, ?_⟩⟩
      exact q _ _ (((Ex.refl a H).trans .upd).trans .upd) ⟨_, _, _, upd_same⟩ (Int.emod_nonneg _ (by omega)) (Int.emod_lt_of_pos _ m0)
/-! ### _law_one_of -/
def spOneOf : Sp := fun vs H Q _ => ∃ (a t : Addr) (xs : List V), vs = [.ref a, .ref t] ∧ Spr H a ∧ H t = some (.lst xs) ∧ t ≠ a ∧ 0 < xs.length ∧ xs.length < 1000 ∧ ∀ (H' : Hp) (v : V), Ex a H H' → Spr H' a → v ∈ xs → Q v H'
theorem ok_law_one_of (T : Txt K mg) (B : Blt mg) : FnOk P w K mg base CX0 2 T.d_law_one_of.f T.d_law_one_of.fd ["_law_spring_here", "_law_some"] spOneOf := by
  refine T.d_law_one_of.F.ok sc_law_one_of (fun vs H Q E h => ?_) (fun cdv A outer s H vs Q E hr h => ?_)
  · obtain ⟨a, t, xs, rfl, _⟩ := h
    rfl
  · obtain ⟨a, t, xs, rfl, sp, ht, nta, l0, l1, q⟩ := h
    refine ⟨_, pss_one (ps_ret (pe_ix ix_list (pv 1) (pe_call (ok_law_draw T B) hr (by rfl) T.d_law_draw.g T.d_law_draw.F.kp T.d_law_draw.b .nil pass0 (pa_cons (pv 0) (pa_cons (pe_callB call_len_seq (by rfl) B.len (by decide +kernel) (pa_cons (pv 1) pa_nil)) pa_nil))) (fun _ _ => rfl))), ?_⟩
    refine ⟨_, rfl, _, rfl, _, rfl, t, xs, rfl, .inl (.of ht), a, (xs.length : Int), rfl, by omega, by omega, sp, fun H1 d ex sp1 d0 d1 => ?_⟩
    obtain ⟨j, rfl⟩ : ∃ j : Nat, d = (j : Int) := ⟨d.toNat, by omega⟩
    have hj : j < xs.length := by omega
    exact ⟨t, xs, _, xs[j], rfl, rfl, .of (ex _ _ nta ht), atI_nat (List.getElem?_eq_getElem hj), q H1 _ ex sp1 (List.getElem_mem hj)⟩
end
end Sg
set_option Elab.async false
set_option linter.all false
set_option maxRecDepth 100000
set_option maxHeartbeats 4000000
namespace Sg
open PySem PySem.Spec PyProof.Rows L2
def lcScope : Expr → Scope
  | .ListComp _ _ sc _ => sc
  | _ => { kind := .function, names := [], isGenerator := false, isCoroutine := false }
def retE (s : Stmt) : Expr := match (defBody s).getLast? with
  | some (.Return (some e) _) => e
  | _ => .Name "x" ⟨0, 0, 0, 0⟩
def rInt : List V → Hp → VK → Prop := fun xs H Q => (∃ i, xs = [.int i] ∧ Q (.int i) H) ∨ ∃ k, xs = [.bl k] ∧ Q (.int (if k then 1 else 0)) H
def rAddI : R2 := rI0 fun i j => .int (i + j)
def rModI : R2 := rI (fun _ j => 0 < j) fun i j => .int (i % j)
def tMod0 (a b : Nat) : TT := tTest (tOp rEq (tOp rModI (tCB rInt (tCons (tVar a) tNil)) (tVar b)) (tC (.int 0)))
theorem dp_ints {K : PySem.W.Frag} {H : Hp} : ∀ ns : List Int, DpAll K H (ns.map V.int) (ns.map PyData.int)
  | [] => .nil
  | n :: ns => .cons (.int n) (dp_ints ns)
theorem eqv_nil (ns : List Int) : PyData.eqv (.list (ns.map PyData.int)) (.list []) = decide (ns = []) := by
  cases ns with
  | nil => simp [PyData.eqv, PyData.eqvAll]
  | cons n ns => simp [PyData.eqv, PyData.eqvAll]
section
variable {P : Program} {w : World} {K : PySem.W.Frag} {mg : Str → Option Value} {base : Heap}
/-! ### _law_lot -/
def spLot : Sp := fun vs H Q _ => ∃ (a : Addr) (n : Nat), vs = [.ref a, .int n] ∧ n ≤ 60 ∧ Spr H a ∧ ∀ (H' : Hp) (p : Addr) (l : List Int), Ex a H H' → Spr H' a → TupI H' p l → Lot n l → Q (.ref p) H'
theorem ok_law_lot (T : Txt K mg) (B : Blt mg) : FnOk P w K mg base CX0 3 T.d_law_lot.f T.d_law_lot.fd ["_law_spring_here", "_law_many"] spLot := by
  refine T.d_law_lot.F.ok sc_law_lot (fun vs H Q E h => ?_) (fun cdv A outer s H vs Q E hr h => ?_)
  · obtain ⟨a, n, rfl, _⟩ := h
    rfl
  · obtain ⟨a, n, rfl, hn, sp, q⟩ := h
    refine ⟨_, pss_cons (ps_set (i := 2) sc_law_lot.nd rfl (.inr rfl) (pe_call (ok_law_one_of T B) hr (by rfl) T.d_law_one_of.g T.d_law_one_of.F.kp T.d_law_one_of.b .nil pass0 (pa_cons (pv 0) (pa_cons (pe_lst (pa_cons pe_int (pa_cons pe_int (pa_cons pe_int (pa_cons pe_int (pa_cons pe_int (pa_cons pe_int pa_nil))))))) pa_nil))))
      (pss_one (ps_ret (pe_callTy call_tuple_of (by rfl) B.tup (by decide +kernel) (pa_cons
        (pe_lc (own := [("_law_k", 3)]) (g := gName 3) (tt := tTest (tOp rEq (tCall spDraw [] E0 (tCons (tVar 0) (tCons (tVar 2) tNil))) (tC (.int 0)))) rfl sc_law_lot.nd (pi_range1 (by rfl) B.rng (pa_cons (pv 1) pa_nil))
          (blkOk_by (N := ["_law_spring_here", "_law_many", "_law_thin", "_law_k"]) (sc := defScope s_law_lot) (by decide +kernel)) (fun _ _ _ _ _ => pg_name (i := 3) sc_law_lot.nd rfl (Or.inl rfl))
          (fun _ _ _ _ _ => pts_one (pt_cmpR op_eq (pe_call (ok_law_draw T B) (hr.mono (by decide)) (by rfl) T.d_law_draw.g T.d_law_draw.F.kp T.d_law_draw.b .nil pass0 (pa_cons (pv 0) (pa_cons (pv 2) pa_nil))) pe_int (nomark _)))
          (fun _ _ _ _ _ => pv 3)) pa_nil)))), ?_⟩
    refine ⟨_, rfl, by show 6 ≤ sizeLine; decide, fun L hL => ⟨a, L, _, rfl, sp.new hL, upd_same, sp.ne_none hL, by decide, by decide, fun H1 v ex sp1 hv => ?_⟩⟩
    have ex1 : Ex a H H1 := (Ex.of (same_upd hL)).trans ex
    obtain ⟨m, rfl, m0, m1⟩ : ∃ m : Int, v = .int m ∧ 0 < m ∧ m < 1000 := by
      simp only [List.mem_cons, List.not_mem_nil, or_false] at hv
      rcases hv with rfl | rfl | rfl | rfl | rfl | rfl <;> exact ⟨_, rfl, by decide, by decide⟩
    refine ⟨_, rfl, (n : Int), rfl, by omega, by omega, fun D hD => lc_range (lo := 0) (n := (n : Int).toNat) (fun i H' => Ex a H H' ∧ Spr H' a ∧ ∃ l, LstI H' D l ∧ l.Pairwise (· < ·) ∧ (∀ x ∈ l, 0 ≤ x ∧ x < (i : Int)) ∧ l.length ≤ i)
      ⟨ex1.new hD, sp1.new hD, [], upd_same, .nil, by simp, Nat.le_refl _⟩ ?_ ?_⟩
    · rintro i H2 hi ⟨ex2, sp2, l, eD, up, rg, len⟩
      have nDa : D ≠ a := sp1.ne_none hD
      refine ⟨rfl, _, rfl, _, rfl, a, m, rfl, m0, by omega, sp2, fun H3 d ex3 sp3 d0 d1 => ⟨rfl, _, rfl, ?_⟩⟩
      have eD3 : LstI H3 D l := ex3 _ _ nDa eD
      refine ite2 (fun _ => ?_) (fun _ => ?_)
      · refine ⟨_, rfl, _, eD3, by rw [List.length_map]; exact small (by omega), ?_⟩
        have hDH : H D = none := by
          cases z : H D with
          | none => rfl
          | some u => rw [ex1 _ _ nDa z] at hD; cases hD
        refine ⟨fun b o nb e => ?_, ?_, l ++ [(0 : Int) + (i : Int)], ?_, ?_, fun x hx => ?_, by rw [List.length_append]; exact Nat.succ_le_succ len⟩
        · rw [upd_ne (ne_of_none e hDH)]
          exact ex3 _ _ nb (ex2 _ _ nb e)
        · obtain ⟨x, y, z, e⟩ := sp3
          exact ⟨x, y, z, by rw [upd_ne (Ne.symm nDa)]; exact e⟩
        · show upd H3 D _ D = _
          rw [upd_same, List.map_append]
          rfl
        · rw [List.pairwise_append]
          refine ⟨up, List.pairwise_singleton _ _, fun x hx y hy => ?_⟩
          rw [List.mem_singleton.mp hy]
          have := (rg x hx).2
          omega
        · rcases List.mem_append.mp hx with hx | hx
          · have := rg x hx
            omega
          · rw [List.mem_singleton.mp hx]
            omega
      · exact ⟨ex2.trans ex3, sp3, l, eD3, up, fun x hx => by have := rg x hx; omega, by omega⟩
    · rintro H2 ⟨ex2, sp2, l, eD, up, rg, len⟩
      rw [Int.toNat_natCast] at rg
      exact ⟨D, _, rfl, .inl ⟨.of eD, fun p hp => q _ p l (ex2.new hp) (sp2.new hp) upd_same ⟨up, fun x hx => (rg x hx).1, fun x hx => (rg x hx).2⟩⟩⟩
/-! ### _law_ring -/
def spRing : Sp := fun vs H Q _ => ∃ a : Addr, vs = [.ref a] ∧ Spr H a ∧ ∀ (H' : Hp) (n : Nat), Ex a H H' → Spr H' a → 0 < n → n ≤ 60 → Q (.int n) H'
theorem ok_law_ring (T : Txt K mg) (B : Blt mg) : FnOk P w K mg base CX0 3 T.d_law_ring.f T.d_law_ring.fd ["_law_spring_here"] spRing := by
  refine T.d_law_ring.F.ok sc_law_ring (fun vs H Q E h => ?_) (fun cdv A outer s H vs Q E hr h => ?_)
  · obtain ⟨a, rfl, _⟩ := h
    rfl
  · obtain ⟨a, rfl, sp, q⟩ := h
    refine ⟨_, pss_one (ps_ret (pe_op op_add pe_int (pe_call (ok_law_draw T B) (hr.mono (by decide)) (by rfl) T.d_law_draw.g T.d_law_draw.F.kp T.d_law_draw.b .nil pass0 (pa_cons (pv 0) (pa_cons
      (pe_call (ok_law_one_of T B) hr (by rfl) T.d_law_one_of.g T.d_law_one_of.F.kp T.d_law_one_of.b .nil pass0 (pa_cons (pv 0) (pa_cons (pe_lst (pa_cons pe_int (pa_cons pe_int (pa_cons pe_int (pa_cons pe_int (pa_cons pe_int pa_nil)))))) pa_nil))) pa_nil))))), ?_⟩
    refine ⟨_, rfl, _, rfl, by show 5 ≤ sizeLine; decide, fun L hL => ⟨a, L, _, rfl, sp.new hL, upd_same, sp.ne_none hL, by decide, by decide, fun H1 v ex sp1 hv => ?_⟩⟩
    obtain ⟨m, rfl, m0, m1⟩ : ∃ m : Int, v = .int m ∧ 0 < m ∧ m ≤ 60 := by
      simp only [List.mem_cons, List.not_mem_nil, or_false] at hv
      rcases hv with rfl | rfl | rfl | rfl | rfl <;> exact ⟨_, rfl, by decide, by decide⟩
    refine ⟨a, m, rfl, m0, by omega, sp1, fun H2 d ex2 sp2 d0 d1 => ⟨1, d, rfl, rfl, ?_⟩⟩
    have e : (1 : Int) + d = ((1 + d.toNat : Nat) : Int) := by omega
    show Q (.int (1 + d)) H2
    rw [e]
    exact q H2 _ (((Ex.of (same_upd hL)).trans ex).trans ex2) sp2 (by omega) (by omega)
/-! ### _law_free -/
def spFree : Sp := fun vs H Q _ => ∃ n : Nat, vs = [.int n] ∧ 0 < n ∧ n ≤ 60 ∧ ∀ (H' : Hp) (p : Addr) (l : List Int), Same H H' → H p = none → LstI H' p l → l ≠ [] → l.length ≤ 60 → (∀ x ∈ l, 1 ≤ x ∧ x ≤ (n : Int) ∧ Nat.gcd n x.natAbs = 1) → Q (.ref p) H'
theorem ok_law_free (T : Txt K mg) (B : Blt mg) : FnOk P w K mg base CX0 1 T.d_law_free.f T.d_law_free.fd ["_law_n"] spFree := by
  refine T.d_law_free.F.ok sc_law_free (fun vs H Q E h => ?_) (fun cdv A outer s H vs Q E hr h => ?_)
  · obtain ⟨a, rfl, _⟩ := h
    rfl
  · obtain ⟨n, rfl, hn, h60, q⟩ := h
    refine ⟨_, pss_one (ps_ret (pe_lc (own := [("_law_m", 2)]) (g := gName 2) (tt := tTest (tOp (rEqD K) (tLc (iRng2 (tCons (tC (.int 2)) (tCons (tOp rAddI (tVar 2) (tC (.int 1))) tNil))) (gName 1) (tAnd (tMod0 2 1) (tMod0 0 1)) (tVar 1) [1]) (tLst tNil))) rfl sc_law_free.nd
      (pi_range2 (by rfl) B.rng (pa_cons pe_int (pa_cons (pe_op op_add (pv 0) pe_int) pa_nil)))
      (blkOk_by (N := ["_law_n", "_law_k", "_law_m"]) (sc := defScope s_law_free) (by decide +kernel)) (fun _ _ _ _ _ => pg_name (i := 2) sc_law_free.nd rfl (Or.inr rfl))
      (fun _ _ _ _ _ => pts_one (pt_cmpR (op_eqD hr.units) (pe_lc (own := [("_law_k", 1)]) (g := gName 1) (tt := tAnd (tMod0 2 1) (tMod0 0 1)) (te := tVar 1) rfl sc_law_free.nd (pi_range2 (by rfl) B.rng (pa_cons pe_int (pa_cons (pe_op op_add (pv 2) pe_int) pa_nil)))
          (blkOk_by (N := ["_law_n", "_law_k", "_law_m"]) (sc := relS (lcScope (retE s_law_free)) (defScope s_law_free)) (by decide +kernel)) (fun _ _ _ _ _ => pg_name (i := 1) sc_law_free.nd rfl (Or.inl rfl))
          (fun _ _ _ _ _ => pts_one (PW.pt (pw_and (pt_cmpR op_eq (pe_op op_mod (pe_callTy call_int1 (by rfl) B.int (by decide +kernel) (pa_cons (pv 2) pa_nil)) (pv 1)) pe_int (nomark _))
            (pw_and1 (pt_cmpR op_eq (pe_op op_mod (pe_callTy call_int1 (by rfl) B.int (by decide +kernel) (pa_cons (pv 0) pa_nil)) (pv 1)) pe_int (nomark _)))))) (fun _ _ _ _ _ => pv 1)) (pe_lst pa_nil) (nomark _)))
      (fun _ _ _ _ _ => pv 2))), ?_⟩
    refine ⟨_, rfl, _, _, rfl, rfl, 1, (n : Int) + 1, rfl, ⟨by omega, by omega, by omega, by omega⟩, fun D hD => lc_range (lo := 1) (n := ((n : Int) + 1 - 1).toNat) (fun i H' => Same H H' ∧ ∃ l, LstI H' D l ∧ l.length ≤ i ∧ (0 < i → l ≠ []) ∧ ∀ x ∈ l, 1 ≤ x ∧ x ≤ (n : Int) ∧ Nat.gcd n x.natAbs = 1)
      ⟨same_upd hD, [], upd_same, Nat.le_refl _, fun z => absurd z (Nat.lt_irrefl _), by simp⟩ ?_ ?_⟩
    · rintro i H1 hi ⟨sm, l, eD, len, ne, pr⟩
      have hi' : i < n := by omega
      refine ⟨rfl, _, rfl, _, _, rfl, rfl, 2, (1 : Int) + (i : Int) + 1, rfl, ⟨by omega, by omega, by omega, by omega⟩, fun D2 hD2 => lc_range (lo := 2) (n := ((1 : Int) + (i : Int) + 1 - 2).toNat) (fun j H2 => Same H1 H2 ∧ ∃ ks, LstI H2 D2 ks ∧ ks.length ≤ j ∧ (ks = [] ↔ ∀ k : Nat, 2 ≤ k → k < 2 + j → ¬ ((1 + i) % k = 0 ∧ n % k = 0)))
        ⟨same_upd hD2, [], upd_same, Nat.le_refl _, ⟨fun _ k h1 h2 => by omega, fun _ => rfl⟩⟩ ?_ ?_⟩
      · rintro j H2 hj ⟨sm2, ks, eK, lk, iff⟩
        have c1 : (1 + (i : Int)) % (2 + (j : Int)) = (((1 + i) % (2 + j) : Nat) : Int) := by
          rw [show (1 + (i : Int)) = ((1 + i : Nat) : Int) by omega, show (2 + (j : Int)) = ((2 + j : Nat) : Int) by omega]
          rfl
        have c2 : (n : Int) % (2 + (j : Int)) = ((n % (2 + j) : Nat) : Int) := by
          rw [show (2 + (j : Int)) = ((2 + j : Nat) : Int) by omega]
          rfl
        have more : ¬ ((1 + i) % (2 + j) = 0 ∧ n % (2 + j) = 0) → (ks = [] ↔ ∀ k : Nat, 2 ≤ k → k < 2 + (j + 1) → ¬ ((1 + i) % k = 0 ∧ n % k = 0)) := fun h => by
          rw [iff]
          refine ⟨fun z k h1 h2 => ?_, fun z k h1 h2 => z k h1 (by omega)⟩
          by_cases e : k = 2 + j
          · rw [e]
            exact h
          · exact z k h1 (by omega)
        refine ⟨rfl, _, rfl, .inl ⟨_, rfl, _, rfl, _, _, rfl, rfl, by show (0 : Int) < 2 + (j : Int); omega, rfl, _, rfl, ite2 (fun h1 => ?_) (fun h1 => ?_)⟩⟩
        · have h1 := V.int.inj (of_decide_eq_true h1)
          rw [c1] at h1
          refine ⟨_, rfl, .inl ⟨_, rfl, _, rfl, _, _, rfl, rfl, by show (0 : Int) < 2 + (j : Int); omega, rfl, _, rfl, ite2 (fun h2 => ?_) (fun h2 => ?_)⟩⟩
          · have h2 := V.int.inj (of_decide_eq_true h2)
            rw [c2] at h2
            refine ⟨_, rfl, _, eK, by rw [List.length_map]; exact small (by omega), sput sm2 hD2, ks ++ [(2 : Int) + (j : Int)], ?_, ?_, ?_⟩
            · show upd H2 D2 _ D2 = _
              rw [upd_same, List.map_append]
              rfl
            · rw [List.length_append]
              exact Nat.succ_le_succ lk
            · refine ⟨fun z => by simp at z, fun z => (z (2 + j) (by omega) (by omega) ⟨by omega, by omega⟩).elim⟩
          · refine ⟨sm2, ks, eK, by omega, more fun z => h2 (decide_eq_true (congrArg V.int ?_))⟩
            rw [c2, z.2]
            rfl
        · refine ⟨sm2, ks, eK, by omega, more fun z => h1 (decide_eq_true (congrArg V.int ?_))⟩
          rw [c1, z.1]
          rfl
      · rintro H2 ⟨sm2, ks, eK, lk, iff⟩
        refine ⟨Nat.zero_le _, fun D3 hD3 => ⟨_, _, .lst (.of (same_upd hD3 _ _ eK)) (dp_ints ks), .lst (.of upd_same) .nil, PySem.W.ke_shaped_ints ks, PySem.W.ke_shaped_ints [], _, rfl, ?_⟩⟩
        rw [eqv_nil]
        have sm3 : Same H (upd H2 D3 (.lst [])) := snew (sm.trans sm2) hD3
        have eD3 : LstI (upd H2 D3 (.lst [])) D l := same_upd hD3 _ _ (sm2 _ _ eD)
        refine ite2 (fun h => ?_) (fun h => ?_)
        · have gone := iff.mp (of_decide_eq_true h)
          have g1 : Nat.gcd n (1 + i) = 1 := gcd_one (by omega) fun k h1 h2 => gone k h1 (by omega)
          refine ⟨_, rfl, _, eD3, by rw [List.length_map]; exact small (by omega), sput sm3 hD, l ++ [(1 : Int) + (i : Int)], ?_, by rw [List.length_append]; exact Nat.succ_le_succ len, fun _ z => by simp at z, fun x hx => ?_⟩
          · show upd _ D _ D = _
            rw [upd_same, List.map_append]
            rfl
          · rcases List.mem_append.mp hx with hx | hx
            · exact pr x hx
            · rw [List.mem_singleton.mp hx]
              refine ⟨by omega, by omega, ?_⟩
              rw [show (1 + (i : Int)).natAbs = 1 + i by omega]
              exact g1
        · refine ⟨sm3, l, eD3, by omega, fun _ => ?_, pr⟩
          by_cases h0 : i = 0
          · exfalso
            refine h (decide_eq_true (iff.mpr fun k h1 h2 => ?_))
            omega
          · exact ne (by omega)
    · rintro H1 ⟨sm, l, eD, len, ne, pr⟩
      exact q H1 D l sm hD eD (ne (by omega)) (by omega) pr
end
end Sg
set_option Elab.async false
set_option linter.all false
set_option maxRecDepth 100000
set_option maxHeartbeats 4000000
namespace Sg
open PySem PySem.Spec PyProof.Rows L2
/-- the row that the law makes of a dict: its keys shifted -/
def shiftRow (D : List (Int × Int)) (c : Int) : List (Int × Int) := (srt (D.map (·.1))).map fun k => (k + c, (look D k).getD 0)
theorem shiftRow_row {D : List (Int × Int)} (n : (D.map (·.1)).Nodup) (nz : ∀ x ∈ D, x.2 ≠ 0) (c : Int) : Row (shiftRow D c) := by
  refine ⟨?_, fun x hx => ?_⟩
  · have e : (shiftRow D c).map (·.1) = (srt (D.map (·.1))).map fun k => k + c := by
      unfold shiftRow
      rw [List.map_map]
      rfl
    rw [e, List.pairwise_map]
    exact (srt_lt n).imp fun h => by omega
  · obtain ⟨k, hk, rfl⟩ := List.mem_map.mp hx
    obtain ⟨v, h1, h2⟩ := look_some ((srt_perm _).mem_iff.mp hk)
    show (look D k).getD 0 ≠ 0
    rw [h1]
    exact nz _ h2
theorem shiftRow_bd {D : List (Int × Int)} {B : Nat} (b : ∀ x ∈ D, x.2.natAbs ≤ B) (c : Int) : ∀ x ∈ shiftRow D c, x.2.natAbs ≤ B := fun x hx => by
  obtain ⟨k, hk, rfl⟩ := List.mem_map.mp hx
  obtain ⟨v, h1, h2⟩ := look_some ((srt_perm _).mem_iff.mp hk)
  show ((look D k).getD 0).natAbs ≤ B
  rw [h1]
  exact b _ h2
theorem shiftRow_len (D : List (Int × Int)) (c : Int) : (shiftRow D c).length = D.length := by
  unfold shiftRow
  rw [List.length_map, srt_length, List.length_map]
theorem enc_kV (D : List (Int × Int)) : (enc D).map (fun kv => kV kv.1) = (D.map (·.1)).map V.int := by
  unfold enc
  rw [List.map_map, List.map_map]
  rfl
section
variable {P : Program} {w : World} {K : PySem.W.Frag} {mg : Str → Option Value} {base : Heap}
/-! ### _law_row -/
def spLawRow : Sp := fun vs H Q _ => ∃ a : Addr, vs = [.ref a] ∧ Spr H a ∧ ∀ (H' : Hp) (p : Addr) (L : List (Int × Int)), Ex a H H' → Spr H' a → RowAt H' p L → Row L → L.length ≤ 6 → (∀ x ∈ L, x.2.natAbs ≤ 1000000000) → Q (.ref p) H'
theorem ok_law_row (T : Txt K mg) (B : Blt mg) : FnOk P w K mg base CX0 3 T.d_law_row.f T.d_law_row.fd ["_law_spring_here"] spLawRow := by
  have Gd := ok_law_draw (P := P) (w := w) (base := base) T B
  have Go := ok_law_one_of (P := P) (w := w) (base := base) T B
  refine T.d_law_row.F.ok sc_law_row (fun vs H Q E h => ?_) (fun cdv A outer s H vs Q E hr h => ?_)
  · obtain ⟨a, rfl, _⟩ := h
    rfl
  · obtain ⟨a, rfl, sp, q⟩ := h
    have hr1 : Room 1 _ := hr.mono (by decide)
    refine ⟨_, pss_cons (ps_set (i := 1) sc_law_row.nd rfl (.inr rfl) pe_dnewK)
      (pss_cons (ps_for PassesOwn.never rfl (pi_range1 (by rfl) B.rng (pa_cons (pe_call Gd hr1 (by rfl) T.d_law_draw.g T.d_law_draw.F.kp T.d_law_draw.b .nil pass0 (pa_cons (pv 0) (pa_cons pe_int pa_nil))) pa_nil)) (pg_name (i := 2) sc_law_row.nd rfl (.inl rfl))
        (pss_one (ps_dput (hu_of hr) (pv 1) (pe_op op_sub (pe_call Gd hr1 (by rfl) T.d_law_draw.g T.d_law_draw.F.kp T.d_law_draw.b .nil pass0 (pa_cons (pv 0) (pa_cons pe_int pa_nil))) pe_int)
          (pe_call Go hr (by rfl) T.d_law_one_of.g T.d_law_one_of.F.kp T.d_law_one_of.b .nil pass0 (pa_cons (pv 0) (pa_cons (pe_lst (pa_cons pe_int (pa_cons (pe_un un_neg pe_int) (pa_cons pe_int (pa_cons pe_int (pa_cons (pe_un un_neg pe_int) (pa_cons (pe_op op_pow pe_int pe_int) pa_nil))))))) pa_nil))) rfl)))
      (pss_cons (ps_set (i := 3) sc_law_row.nd rfl (.inr rfl) (pe_call Go hr (by rfl) T.d_law_one_of.g T.d_law_one_of.F.kp T.d_law_one_of.b .nil pass0 (pa_cons (pv 0) (pa_cons (pe_lst (pa_cons pe_int (pa_cons pe_int (pa_cons (pe_op op_pow pe_int pe_int) (pa_cons (pe_un un_neg pe_int) pa_nil))))) pa_nil))))
      (pss_one (ps_ret (pe_callTy call_tuple_of (by rfl) B.tup (by decide +kernel) (pa_cons
        (pe_lc (own := [("_law_place", 4)]) (g := gName 4) (tt := tYes) rfl sc_law_row.nd (pi_list (pe_callB cr_sorted (by rfl) B.srt (by decide +kernel) (pa_cons (pe_callTy (call_list_dK rfl) (by rfl) B.lst (by decide +kernel) (pa_cons (pv 1) pa_nil)) pa_nil)))
          (blkOk_by (N := ["_law_spring_here", "_law_found", "_law_turn", "_law_more", "_law_place"]) (sc := defScope s_law_row) (by decide +kernel)) (fun _ _ _ _ _ => pg_name (i := 4) sc_law_row.nd rfl (Or.inl rfl))
          (fun _ _ _ _ _ => pts_nil) (fun _ _ _ _ _ => pe_tup (pa_cons (pe_op op_add (pv 4) (pv 3)) (pa_cons (pe_dget (hu_of hr) (pv 1) (pv 4) (fun _ _ => rfl)) pa_nil)))) pa_nil)))))), ?_⟩
    refine fun S hS => ?_
    have nSa : S ≠ a := sp.ne_none hS
    refine ⟨_, rfl, a, 7, rfl, by decide, by decide, sp.new hS, fun H1 d ex1 sp1 d0 d1 => ⟨d, rfl, by omega, by omega, for_range (lo := 0) (n := d.toNat) (fun i σ H' => ∃ y2, σ = [some (.ref a), some (.ref S), y2, none, none] ∧ Ex a H H' ∧ Spr H' a ∧
        ∃ D, H' S = some (.dK (enc D)) ∧ (D.map (·.1)).Nodup ∧ D.length ≤ i ∧ ∀ x ∈ D, x.2 ≠ 0 ∧ x.2.natAbs ≤ 1000000000)
      ⟨_, rfl, (Ex.of (same_upd hS)).trans ex1, sp1, [], ex1 _ _ nSa upd_same, .nil, Nat.le_refl _, by simp⟩ ?_ ?_⟩⟩
    · rintro i σ H2 hi ⟨y2, rfl, ex2, sp2, D, eS, nd, len, bd⟩
      refine ⟨_, rfl, 1, rfl, 5, rfl, _, _, rfl, rfl, ⟨by decide, by decide, by decide⟩, by show 6 ≤ sizeLine; decide, fun L hL => ⟨a, L, _, rfl, sp2.new hL, upd_same, sp2.ne_none hL, (by show 0 < 6; decide), (by show 6 < 1000; decide), fun H3 v ex3 sp3 hv => ?_⟩⟩
      obtain ⟨m, rfl, m0, m1⟩ : ∃ m : Int, v = .int m ∧ m ≠ 0 ∧ m.natAbs ≤ 1000000000 := by
        simp only [List.mem_cons, List.not_mem_nil, or_false] at hv
        rcases hv with rfl | rfl | rfl | rfl | rfl | rfl <;> exact ⟨_, rfl, by decide, by decide⟩
      have eS3 : H3 S = some (.dK (enc D)) := ex3 _ _ nSa (same_upd hL _ _ eS)
      refine ⟨_, rfl, _, rfl, a, 70, rfl, by decide, by decide, sp3, fun H4 e ex4 sp4 e0 e1 => ⟨_, 35, rfl, rfl, ?_⟩⟩
      have eS4 : H4 S = some (.dK (enc D)) := ex4 _ _ nSa eS3
      have put := DPut.k (k := Sum.inl (e - 35)) (v := .int m) eS4 (by rw [enc_len]; exact small (by omega))
      rw [enc_put] at put
      have hSH : H S = none := hS
      refine ⟨S, _, rfl, put, _, rfl, fun b o nb z => ?_, ?_, Sg.put D (e - 35) m, upd_same, put_nodup nd, Nat.le_trans (put_len _ _ _) (Nat.succ_le_succ len), fun x hx => ?_⟩
      · rw [upd_ne (ne_of_none z hSH)]
        exact ex4 _ _ nb (ex3 _ _ nb (same_upd hL _ _ (ex2 _ _ nb z)))
      · obtain ⟨x, y, z, q4⟩ := sp4
        exact ⟨x, y, z, by rw [upd_ne nSa.symm]; exact q4⟩
      · rcases put_mem hx with h | h
        · exact bd x h
        · rw [h]
          exact ⟨m0, m1⟩
    · rintro σ H2 ⟨y2, rfl, ex2, sp2, D, eS, nd, len, bd⟩
      have len6 : D.length ≤ 6 := by omega
      refine ⟨_, rfl, _, _, rfl, rfl, ⟨by decide, by decide, by decide⟩, 17, rfl, by show 4 ≤ sizeLine; decide, fun L hL => ⟨a, L, _, rfl, sp2.new hL, upd_same, sp2.ne_none hL, (by show 0 < 4; decide), (by show 4 < 1000; decide), fun H3 v ex3 sp3 hv => ?_⟩⟩
      obtain ⟨c, rfl⟩ : ∃ c : Int, v = .int c := by
        simp only [List.mem_cons, List.not_mem_nil, or_false] at hv
        rcases hv with rfl | rfl | rfl | rfl <;> exact ⟨_, rfl⟩
      have exb : Ex a H H3 := (ex2.new hL).trans ex3
      have eS3 : H3 S = some (.dK (enc D)) := ex3 _ _ nSa (same_upd hL _ _ eS)
      refine ⟨_, rfl, S, _, rfl, eS3, fun L1 hL1 => ⟨L1, D.map (·.1), rfl, .of ?_, by rw [List.length_map]; omega, fun ks L2 perm up hL2 => ⟨L2, rfl, ⟨_, .of upd_same⟩, fun R hR => ?_⟩⟩⟩
      · rw [upd_same, enc_kV]
      obtain rfl := srt_of perm up
      have sm0 : Same H3 (upd (upd H3 L1 (.lst ((enc D).map fun kv => kV kv.1))) L2 (.lst ((srt (D.map (·.1))).map V.int))) := snew (same_upd hL1) hL2
      have hR3 : H3 R = none := by
        cases z : H3 R with
        | none => rfl
        | some u => rw [sm0 _ _ z] at hR; cases hR
      have nLR : L2 ≠ R := ne_of_none upd_same hR
      refine lc_list (K := K) (a := L2) (xs := (srt (D.map (·.1))).map V.int) (fun i H' => Same H3 H' ∧ H' L2 = some (.lst ((srt (D.map (·.1))).map V.int)) ∧ ∃ as, H' R = some (.lst (as.map V.ref)) ∧ Cells H' as (((srt (D.map (·.1))).take i).map fun k => (k + c, (look D k).getD 0)))
        ⟨snew sm0 hR, by rw [upd_ne nLR]; exact upd_same, [], upd_same, Cells.nil⟩ (fun i H' _ h => .of h.2.1) ?_ ?_
      · rintro i x H4 hx ⟨sm, eL, as, eR, cells⟩
        obtain ⟨k, hk, rfl⟩ := get_int hx
        have mem : k ∈ D.map (·.1) := (srt_perm _).mem_iff.mp (List.mem_of_getElem? hk)
        obtain ⟨v, hv, _⟩ := look_some mem
        have get : DGet H4 S (.int k) (some (.int v)) := by
          have := DGet.k (k := Sum.inl k) (sm _ _ eS3)
          rw [enc_val, hv] at this
          exact this
        refine ⟨rfl, _, rfl, _, rfl, _, _, rfl, rfl, _, rfl, _, rfl, S, _, rfl, get, by show 2 ≤ sizeLine; decide, fun C hC => ?_⟩
        have nRC : R ≠ C := ne_of_none eR hC
        have nLC : L2 ≠ C := ne_of_none eL hC
        refine ⟨_, by rw [upd_ne nRC]; exact eR, ?_, ?_⟩
        · rw [List.length_map, cells.1, List.length_map]
          have := take_le (srt (D.map (·.1))) i
          rw [srt_length, List.length_map] at this
          exact small (by omega)
        refine ⟨sput (snew sm hC) hR3, by rw [upd_ne nLR, upd_ne nLC]; exact eL, as ++ [C], by rw [upd_same, List.map_append]; rfl, ?_⟩
        rw [← take_map (f := fun k => (k + c, (look D k).getD 0)) hk]
        have keep : ∀ b xs, H4 b = some (.tup xs) → (upd (upd H4 C (.tup [.int (k + c), .int v])) R (.lst (as.map V.ref ++ [V.ref C]))) b = some (.tup xs) := fun b xs e => by
          rw [upd_ne (ne_of e eR (by intro z; cases z)), upd_ne (ne_of_none e hC)]
          exact e
        refine (cells.keep keep).snoc (x := (k + c, (look D k).getD 0)) ?_
        rw [upd_ne nRC.symm, hv]
        exact upd_same
      · rintro H4 ⟨sm, eL, as, eR, cells⟩
        rw [List.length_map, List.take_length] at cells
        refine ⟨R, _, rfl, .inl ⟨.of eR, fun p hp => q _ p (shiftRow D c) (exb.trans (Ex.of (snew sm hp))) (sp3.same (snew sm hp)) ⟨as, upd_same, cells.same (same_upd hp)⟩ (shiftRow_row nd (fun x hx => (bd x hx).1) c) (by rw [shiftRow_len]; exact len6) (shiftRow_bd (fun x hx => (bd x hx).2) c)⟩⟩
end
end Sg
set_option Elab.async false
set_option linter.all false
set_option maxRecDepth 100000
set_option maxHeartbeats 4000000
namespace Sg
open PySem PySem.Spec PyProof.Rows L2
theorem cut_ints (ns : List Int) (lo hi : Option Int) : ∃ ms : List Int, cutV (ns.map V.int) lo hi = ms.map V.int := by
  unfold cutV
  rw [← List.map_drop, ← List.map_take]
  exact ⟨_, rfl⟩
section
variable {P : Program} {w : World} {K : PySem.W.Frag} {mg : Str → Option Value} {base : Heap}
/-! ### _law_spring -/
def spSpring (K : PySem.W.Frag) : Sp := fun vs H Q _ => ∃ (s : Addr) (t : Nat) (ns : List Int), vs = [.ref s, .int t] ∧ SqL K H s (ns.map V.int) ∧ ∀ (H' : Hp) (p : Addr), Same H H' → H p = none → Spr H' p → Q (.ref p) H'
theorem weakE {X : Cx} {e : Expr} {t t' : TE} (h : PE X e t) (m : ∀ σ H Q, t' σ H Q → t σ H Q) : PE X e t' := ⟨fun pins s σ H Q I q => h.run pins s σ H Q I (m _ _ _ q)⟩
/-- the number of the turn, whatever it is -/
def tHere (K : PySem.W.Frag) : TE := fun σ H Q => (∃ (a : Addr) (t : Nat) (ns : List Int), σ[0]? = some (some (.ref a)) ∧ σ[1]? = some (some (.int (t : Int))) ∧ SqL K H a (ns.map V.int)) ∧ ∀ i : Int, Q (.int i) H
/-- the first number of the spring -/
def tFirst : TE := fun σ H Q => (∃ i : Int, σ[2]? = some (some (.int i))) ∧ ∀ j : Int, Q (.int j) H
theorem ok_law_spring (T : Txt K mg) (B : Blt mg) : FnOk P w K mg base CX0 1 T.d_law_spring.f T.d_law_spring.fd ["_law_script", "_law_turn"] (spSpring K) := by
  refine T.d_law_spring.F.ok sc_law_spring (fun vs H Q E h => ?_) (fun cdv A outer s H vs Q E hr h => ?_)
  · obtain ⟨a, t, ns, rfl, _⟩ := h
    rfl
  · obtain ⟨a, t, ns, rfl, hS, q⟩ := h
    refine ⟨_, pss_cons (ps_set (i := 2) sc_law_spring.nd rfl (.inl rfl) (weakE (t' := tHere K) (pe_ifExp (pt_cmpR op_lt (pv 1) (pe_callB call_len_seq (by rfl) B.len (by decide +kernel) (pa_cons (pv 0) pa_nil)) (nomark _))
        (pe_callTy call_int1 (by rfl) B.int (by decide +kernel) (pa_cons (pe_ix ix_list (pv 0) (pv 1) (fun _ _ => rfl)) pa_nil)) (pe_op op_add (pe_op op_mul pe_int (pv 1)) pe_int)) ?m1))
      (pss_cons (ps_set (i := 3) sc_law_spring.nd rfl (.inl rfl) (pe_op op_add pe_int (pe_op op_mul pe_int (pv 1))))
      (pss_cons (ps_for PassesOwn.never rfl (pi_list (pe_slice sl_list (pv 0) po_none (po_some pe_int))) (pg_name (i := 4) sc_law_spring.nd rfl (.inl rfl))
        (pss_one (ps_set (i := 3) sc_law_spring.nd rfl (.inl rfl) (pe_op op_mod (pe_callTy call_int1 (by rfl) B.int (by decide +kernel) (pa_cons (pe_op op_add (pe_op op_add (pe_op op_mul (pv 3) pe_int)
          (pe_op op_mul (pe_op op_mod (pe_callTy call_int1 (by rfl) B.int (by decide +kernel) (pa_cons (pv 4) pa_nil)) pe_int) pe_int)) pe_int) pa_nil)) pe_int))))
      (pss_cons (ps_set (i := 3) sc_law_spring.nd rfl (.inl rfl) (pe_op op_mod (pe_callTy call_int1 (by rfl) B.int (by decide +kernel) (pa_cons (pe_op op_add (pe_op op_mul (pv 3) pe_int)
          (pe_op op_mul (pe_op op_mod (pe_callTy call_int1 (by rfl) B.int (by decide +kernel) (pa_cons (pv 2) pa_nil)) pe_int) pe_int)) pa_nil)) pe_int))
      (pss_one (ps_ret (pe_lst (pa_cons (weakE (t' := tFirst) (pe_ifExp (PW.pt (pw_or (pt_cmpR op_lt (pv 2) pe_int (nomark _)) (pw_or1 (pt_cmpR op_ge (pv 2) (pe_op op_pow pe_int pe_int) (nomark _)))))
          (pe_callB call_abs (by rfl) B.abs (by decide +kernel) (pa_cons (pv 2) pa_nil)) pe_int) ?m2) (pa_cons (pv 3) (pa_cons pe_int pa_nil))))))))), ?_⟩
    case m1 =>
      rintro σ H Q ⟨⟨a, t, ns, e0, e1, hS⟩, q⟩
      refine ⟨_, e1, _, e0, a, _, rfl, .inl hS, _, _, rfl, rfl, _, rfl, ite2 (fun h => ?_) (fun h => ?_)⟩
      · have lt : t < ns.length := by
          have := of_decide_eq_true h
          rw [List.length_map] at this
          omega
        exact ⟨_, e0, _, e1, a, _, _, _, rfl, rfl, hS, atI_nat (at_int (List.getElem?_eq_getElem lt)), .inl ⟨_, rfl, q _⟩⟩
      · exact ⟨_, e1, _, _, rfl, rfl, .inl ⟨by decide, by decide⟩, _, _, rfl, rfl, q _⟩
    case m2 =>
      rintro σ H Q ⟨⟨i, e2⟩, q⟩
      refine ⟨_, e2, _, _, rfl, rfl, _, rfl, ?_⟩
      have yes : tCB (fun xs H Q => ∃ i, xs = [V.int i] ∧ Q (V.int (if i < 0 then -i else i)) H) (tCons (tVar 2) tNil) σ H Q := ⟨_, e2, _, rfl, q _⟩
      refine ite2 (fun _ => yes) (fun _ => ⟨_, e2, 10, 16, rfl, rfl, ⟨by decide, by decide, by decide⟩, _, _, rfl, rfl, _, rfl, ite2 (fun _ => yes) (fun _ => q 0)⟩)
    refine ⟨⟨a, t, ns, rfl, rfl, hS⟩, fun here => ?_⟩
    refine ⟨_, rfl, _, _, rfl, rfl, .inl ⟨by decide, by decide⟩, _, _, rfl, rfl, ?_⟩
    obtain ⟨ms, hms⟩ := cut_ints ns none (some 9)
    refine ⟨_, rfl, 9, rfl, a, _, rfl, hS, fun C hC => ?_⟩
    rw [hms]
    refine ⟨C, rfl, ⟨_, .of upd_same⟩, for_list (K := K) (a := C) (xs := ms.map V.int) (fun i σ H' => ∃ (m : Int) (y4 : Option V), σ = [some (.ref a), some (.int (t : Int)), some (.int here), some (.int m), y4] ∧ H' = upd H C (.lst (ms.map V.int))) ⟨_, _, rfl, rfl⟩ (fun i σ H' _ h => ?_) ?_ ?_⟩
    · obtain ⟨_, _, _, rfl⟩ := h
      exact .of upd_same
    · rintro i x σ H' hx ⟨m, y4, rfl, rfl⟩
      obtain ⟨z, hz, rfl⟩ := get_int hx
      have b0 := Int.emod_nonneg z (show (1000000007 : Int) ≠ 0 by decide)
      refine ⟨_, rfl, _, _, rfl, rfl, .inr ⟨by decide, by decide⟩, _, rfl, .inl ⟨_, rfl, _, _, rfl, rfl, (by show (0 : Int) < 1000000007; decide), _, _, rfl, rfl, .inr ⟨by decide, by decide⟩, _, _, rfl, rfl, _, _, rfl, rfl, .inl ⟨_, rfl, _, _, rfl, rfl, (by show (0 : Int) < 2147483629; decide), ?_⟩⟩⟩
      exact ⟨_, _, rfl, rfl⟩
    · rintro σ H' ⟨m, y4, rfl, rfl⟩
      refine ⟨_, rfl, _, _, rfl, rfl, .inr ⟨by decide, by decide⟩, _, rfl, .inl ⟨_, rfl, _, _, rfl, rfl, (by show (0 : Int) < 998244353; decide), _, _, rfl, rfl, .inr ⟨by decide, by decide⟩, _, _, rfl, rfl, .inl ⟨_, rfl, _, _, rfl, rfl, (by show (0 : Int) < 2147483629; decide), ?_⟩⟩⟩
      refine ⟨⟨here, rfl⟩, fun j => ⟨_, rfl, by show 3 ≤ sizeLine; decide, fun p hp => q _ p (snew (same_upd hC) hp) ((same_upd hC).free hp) ⟨_, _, _, upd_same⟩⟩⟩
end
end Sg
set_option Elab.async false
set_option linter.all false
set_option maxRecDepth 100000
set_option maxHeartbeats 4000000
namespace Sg
open PySem PySem.Spec PyProof.Rows L2
/-! ### what repr asks of lists of tuples of whole numbers -/
theorem leaf_int {n : Int} (h : n.natAbs < 10 ^ 20) : (PyData.int n).leavesShort 21 = true := by
  have e : (PyData.shown (.int n)).length ≤ 21 := by
    have := int_text_length_le10 (k := 20) (by decide) h
    show (Str.ofString (toString n)).length ≤ 21
    rw [PySem.ofString_length]
    exact this
  simp only [PyData.leavesShort, decide_eq_true_eq]
  exact e
theorem leaves_ints : ∀ {l : List Int}, (∀ x ∈ l, x.natAbs < 10 ^ 20) → PyData.leavesShortAll 21 (l.map .int) = true
  | [], _ => by simp only [List.map_nil, PyData.leavesShortAll]
  | n :: l, h => by
    simp only [List.map_cons, PyData.leavesShortAll, Bool.and_eq_true]
    exact ⟨leaf_int (h n (List.mem_cons_self ..)), leaves_ints fun x hx => h x (List.mem_cons_of_mem _ hx)⟩
theorem bulk_ints : ∀ l : List Int, PyData.bulkAll (l.map .int) = l.length
  | [] => by simp only [List.map_nil, PyData.bulkAll, List.length_nil]
  | n :: l => by simp only [List.map_cons, PyData.bulkAll, PyData.bulk, bulk_ints l, List.length_cons]; omega
theorem show_ints : ∀ {l : List Int}, (∀ x ∈ l, x.natAbs < 10 ^ 20) → PyData.showableAll (l.map .int) = true
  | [], _ => by simp only [List.map_nil, PyData.showableAll]
  | n :: l, h => by
    simp only [List.map_cons, PyData.showableAll, PyData.showable, Bool.and_eq_true, decide_eq_true_eq]
    refine ⟨?_, show_ints fun x hx => h x (List.mem_cons_of_mem _ hx)⟩
    have h1 := h n (List.mem_cons_self ..)
    have h2 : n.natAbs < 2 ^ 100 := Nat.lt_trans h1 (by decide)
    exact Nat.lt_of_lt_of_le (PySem.Flt.log2_lt_of (by decide) h2) (by decide)
theorem nodict_ints : ∀ l : List Int, PyData.hasDictAll (l.map .int) = false
  | [] => by simp only [List.map_nil, PyData.hasDictAll]
  | n :: l => by simp only [List.map_cons, PyData.hasDictAll, PyData.hasDict, nodict_ints l, Bool.or_self]
/-- a row of tuples of whole numbers -/
def rows_ (ls : List (List Int)) : List PyData := ls.map fun l => .tuple (l.map .int)
structure Fits (d : PyData) : Prop where
  sh : d.showable = true
  nd : d.hasDict = false
  dp : d.depth ≤ 60
  sz : d.shown.length ≤ sizeLine
theorem fits_of {d : PyData} (sh : d.showable = true) (nd : d.hasDict = false) (dp : d.depth ≤ 60) (lv : d.leavesShort 21 = true) (bk : d.bulk ≤ 1000) : Fits d := by
  refine ⟨sh, nd, dp, ?_⟩
  have := PyData.shown_le_bulk 21 (by decide) d lv
  rw [sizeLine_eq]
  omega
theorem fits_list {l : List Int} (h : ∀ x ∈ l, x.natAbs < 10 ^ 20) (len : l.length ≤ 60) : Fits (.list (l.map .int)) := by
  refine fits_of ?_ ?_ ?_ ?_ ?_
  · simp only [PyData.showable]; exact show_ints h
  · simp only [PyData.hasDict]; exact nodict_ints l
  · simp only [PyData.depth, PySem.W.ke_depthAll]; decide
  · simp only [PyData.leavesShort]; exact leaves_ints h
  · simp only [PyData.bulk, bulk_ints]; omega
theorem fits_tup {l : List Int} (h : ∀ x ∈ l, x.natAbs < 10 ^ 20) (len : l.length ≤ 60) : Fits (.tuple (l.map .int)) := by
  refine fits_of ?_ ?_ ?_ ?_ ?_
  · simp only [PyData.showable]; exact show_ints h
  · simp only [PyData.hasDict]; exact nodict_ints l
  · simp only [PyData.depth, PySem.W.ke_depthAll]; decide
  · simp only [PyData.leavesShort]; exact leaves_ints h
  · simp only [PyData.bulk, bulk_ints]; omega
theorem rows_facts : ∀ {ls : List (List Int)}, (∀ l ∈ ls, l.length ≤ 60 ∧ ∀ x ∈ l, x.natAbs < 10 ^ 20) → PyData.showableAll (rows_ ls) = true ∧ PyData.hasDictAll (rows_ ls) = false ∧ PyData.depthAll (rows_ ls) ≤ 1 ∧ PyData.leavesShortAll 21 (rows_ ls) = true ∧ PyData.bulkAll (rows_ ls) ≤ 61 * ls.length
  | [], _ => by simp [rows_, PyData.showableAll, PyData.hasDictAll, PyData.depthAll, PyData.leavesShortAll, PyData.bulkAll]
  | l :: ls, h => by
    obtain ⟨a, b, c, d, e⟩ := rows_facts fun x hx => h x (List.mem_cons_of_mem _ hx)
    obtain ⟨h1, h2⟩ := h l (List.mem_cons_self ..)
    have r : rows_ (l :: ls) = .tuple (l.map .int) :: rows_ ls := rfl
    rw [r]
    simp only [PyData.showableAll, PyData.showable, PyData.hasDictAll, PyData.hasDict, PyData.depthAll, PyData.depth, PyData.leavesShortAll, PyData.leavesShort, PyData.bulkAll, PyData.bulk, a, b, d, show_ints h2, nodict_ints, PySem.W.ke_depthAll, leaves_ints h2, bulk_ints, List.length_cons]
    refine ⟨rfl, rfl, ?_, rfl, ?_⟩
    · omega
    · omega
theorem fits_rows {ls : List (List Int)} (h : ∀ l ∈ ls, l.length ≤ 60 ∧ ∀ x ∈ l, x.natAbs < 10 ^ 20) (len : ls.length ≤ 4) : Fits (.list (rows_ ls)) := by
  obtain ⟨a, b, c, d, e⟩ := rows_facts h
  refine fits_of ?_ ?_ ?_ ?_ ?_
  · simp only [PyData.showable]; exact a
  · simp only [PyData.hasDict]; exact b
  · simp only [PyData.depth]; omega
  · simp only [PyData.leavesShort]; exact d
  · simp only [PyData.bulk]; omega
theorem dp_two {K : PySem.W.Frag} {H : Hp} {p a b : Addr} {l m : List Int} (hp : H p = some (.lst [.ref a, .ref b])) (ha : TupI H a l) (hb : TupI H b m) : Dp K H (.ref p) (.list (rows_ [l, m])) :=
  .lst (.of hp) (.cons (.tup (.of ha) (dp_ints l)) (.cons (.tup (.of hb) (dp_ints m)) .nil))
theorem dp_three {K : PySem.W.Frag} {H : Hp} {p a b c : Addr} {l m k : List Int} (hp : H p = some (.lst [.ref a, .ref b, .ref c])) (ha : TupI H a l) (hb : TupI H b m) (hc : TupI H c k) : Dp K H (.ref p) (.list (rows_ [l, m, k])) :=
  .lst (.of hp) (.cons (.tup (.of ha) (dp_ints l)) (.cons (.tup (.of hb) (dp_ints m)) (.cons (.tup (.of hc) (dp_ints k)) .nil)))
theorem two_ok {l m : List Int} (h1 : l.length ≤ 60 ∧ ∀ x ∈ l, x.natAbs < 10 ^ 20) (h2 : m.length ≤ 60 ∧ ∀ x ∈ m, x.natAbs < 10 ^ 20) : Fits (.list (rows_ [l, m])) := by
  refine fits_rows (fun x hx => ?_) (by show 2 ≤ 4; decide)
  simp only [List.mem_cons, List.not_mem_nil, or_false] at hx
  rcases hx with rfl | rfl
  · exact h1
  · exact h2
theorem three_ok {l m k : List Int} (h1 : l.length ≤ 60 ∧ ∀ x ∈ l, x.natAbs < 10 ^ 20) (h2 : m.length ≤ 60 ∧ ∀ x ∈ m, x.natAbs < 10 ^ 20) (h3 : k.length ≤ 60 ∧ ∀ x ∈ k, x.natAbs < 10 ^ 20) : Fits (.list (rows_ [l, m, k])) := by
  refine fits_rows (fun x hx => ?_) (by show 3 ≤ 4; decide)
  simp only [List.mem_cons, List.not_mem_nil, or_false] at hx
  rcases hx with rfl | rfl | rfl
  · exact h1
  · exact h2
  · exact h3
theorem Lot.fit {n : Nat} {l : List Int} (h : Lot n l) (hn : n ≤ 60) : l.length ≤ 60 ∧ ∀ x ∈ l, x.natAbs < 10 ^ 20 := by
  refine ⟨Nat.le_trans h.len hn, fun x hx => ?_⟩
  have a := h.ge x hx
  have b := h.lt x hx
  have : x.natAbs < 60 := by omega
  exact Nat.lt_trans this (by decide)
/-- what stands in a rolled row is no more than all its weights -/
theorem at_bound {n : Nat} {L : List (Int × Int)} {B : Nat} (h : ∀ x ∈ L, x.2.natAbs ≤ B) (d : Int) : (at_ n L d).natAbs ≤ L.length * B := by
  unfold at_
  refine sm_bound _ _ _ fun x hx => ?_
  split
  · exact h x hx
  · exact Nat.zero_le _
theorem roll_mem {n : Nat} {L : List (Int × Int)} {x : Int} (h : x ∈ roll n L) : ∃ d : Nat, x = at_ n L (d : Int) := by
  obtain ⟨d, _, rfl⟩ := List.mem_map.mp h
  exact ⟨d, rfl⟩
theorem roll_fit {n : Nat} {L : List (Int × Int)} {B : Nat} (hn : n ≤ 60) (h : ∀ x ∈ L, x.2.natAbs ≤ B) (hB : L.length * B < 10 ^ 20) : (roll n L).length ≤ 60 ∧ ∀ x ∈ roll n L, x.natAbs < 10 ^ 20 := by
  refine ⟨by rw [roll_length]; exact hn, fun x hx => ?_⟩
  obtain ⟨d, rfl⟩ := roll_mem hx
  exact Nat.lt_of_le_of_lt (at_bound h _) hB
theorem gaps_fit {n : Nat} {l : List Int} (hn : n ≤ 60) (hl : l.length ≤ 60) : (roll n (gapsL l l)).length ≤ 60 ∧ ∀ x ∈ roll n (gapsL l l), x.natAbs < 10 ^ 20 := by
  refine roll_fit (B := 1) hn (fun x hx => ?_) ?_
  · unfold gapsL tens at hx
    obtain ⟨a, _, hx⟩ := List.mem_flatMap.mp hx
    obtain ⟨b, _, rfl⟩ := List.mem_map.mp hx
    exact Nat.le_refl 1
  · unfold gapsL
    rw [tens_len]
    have := Nat.mul_le_mul hl hl
    exact Nat.lt_of_le_of_lt (show _ ≤ 3600 by omega) (by decide)
/-! ### calls by keywords: how they bind -/
def rot3 {α : Type} : List α → List α
  | [a, b, c] => [b, c, a]
  | _ => []
def rev3 {α : Type} : List α → List α
  | [a, b, c] => [c, b, a]
  | _ => []
def swap2 {α : Type} : List α → List α
  | [a, b] => [b, a]
  | _ => []
theorem rot3_rel : ∀ {zs : List V} {ws : List Value}, Vals zs ws → Vals (rot3 zs) (rot3 ws)
  | _, _, .nil => .nil
  | _, _, .cons _ .nil => .nil
  | _, _, .cons _ (.cons _ .nil) => .nil
  | _, _, .cons a (.cons b (.cons c .nil)) => .cons b (.cons c (.cons a .nil))
  | _, _, .cons _ (.cons _ (.cons _ (.cons _ _))) => .nil
theorem rev3_rel : ∀ {zs : List V} {ws : List Value}, Vals zs ws → Vals (rev3 zs) (rev3 ws)
  | _, _, .nil => .nil
  | _, _, .cons _ .nil => .nil
  | _, _, .cons _ (.cons _ .nil) => .nil
  | _, _, .cons a (.cons b (.cons c .nil)) => .cons c (.cons b (.cons a .nil))
  | _, _, .cons _ (.cons _ (.cons _ (.cons _ _))) => .nil
theorem swap2_rel : ∀ {zs : List V} {ws : List Value}, Vals zs ws → Vals (swap2 zs) (swap2 ws)
  | _, _, .nil => .nil
  | _, _, .cons _ .nil => .nil
  | _, _, .cons a (.cons b .nil) => .cons b (.cons a .nil)
  | _, _, .cons _ (.cons _ (.cons _ _)) => .nil
section
variable {K : PySem.W.Frag} {f : Addr} {fd : FuncData}
theorem kb_turned (F : Fun K "turned_round" "turned_round" s_turned_round f fd) : KBn K fd ["n", "lot", "turn"] 0 ["turn", "n", "lot"] (fun _ ws => rot3 ws) (fun _ zs => rot3 zs) := by
  obtain ⟨oc, od, kV, doc, pm, an, cdv, ct, osl, rfl, _, _⟩ := F.ex
  exact ⟨fun s us ws _ h1 h2 => match us, ws, h1, h2 with | [], [_, _, _], _, _ => .of_eq rfl, fun _ r => rot3_rel r⟩
theorem kb_multiplied (F : Fun K "multiplied" "multiplied" s_multiplied f fd) : KBn K fd ["n", "lot", "many"] 0 ["many", "lot", "n"] (fun _ ws => rev3 ws) (fun _ zs => rev3 zs) := by
  obtain ⟨oc, od, kV, doc, pm, an, cdv, ct, osl, rfl, _, _⟩ := F.ex
  exact ⟨fun s us ws _ h1 h2 => match us, ws, h1, h2 with | [], [_, _, _], _, _ => .of_eq rfl, fun _ r => rev3_rel r⟩
theorem kb_mirrored (F : Fun K "mirrored_round" "mirrored_round" s_mirrored_round f fd) : KBn K fd ["n", "lot"] 0 ["lot", "n"] (fun _ ws => swap2 ws) (fun _ zs => swap2 zs) := by
  obtain ⟨oc, od, kV, doc, pm, an, cdv, ct, osl, rfl, _, _⟩ := F.ex
  exact ⟨fun s us ws _ h1 h2 => match us, ws, h1, h2 with | [], [_, _], _, _ => .of_eq rfl, fun _ r => swap2_rel r⟩
theorem kb_rolled (F : Fun K "rolled" "rolled" s_rolled f fd) : KBn K fd ["n", "row"] 0 ["row", "n"] (fun _ ws => swap2 ws) (fun _ zs => swap2 zs) := by
  obtain ⟨oc, od, kV, doc, pm, an, cdv, ct, osl, rfl, _, _⟩ := F.ex
  exact ⟨fun s us ws _ h1 h2 => match us, ws, h1, h2 with | [], [_, _], _, _ => .of_eq rfl, fun _ r => swap2_rel r⟩
end
/-! ### a comprehension over a tuple of whole numbers -/
theorem lcI {K : PySem.W.Frag} {t D : Addr} {l : List Int} {f : Int → Int} {i : Nat} {te : TE} {vs : List Nat} {σ : L2.St} {H : Hp} {Qd : Hp → Prop} (hD : H D = none) (ht : TupI H t l) (len : l.length ≤ 60)
    (wp : ∀ z : Int, wipe ((wipe σ vs).set i (some (.int z))) vs = wipe σ vs) (step : ∀ z ∈ l, ∀ (H' : Hp) (Q : VK), Same H H' → Q (.int (f z)) H' → te ((wipe σ vs).set i (some (.int z))) H' Q) (hd : ∀ H', Same H H' → LstI H' D (l.map f) → Qd H') :
    ∃ W : Nat → Nat → Hp → Prop, (∃ m, W 0 m (upd H D (.lst []))) ∧ ∀ j m H, W j m H →
      ((Itt K t).stop j H ∧ Qd H) ∨ ((Itt K t).go j H ∧ ∃ Nx : Hp → Prop, (∀ H', Nx H' → ∃ m', m' < m ∧ W (j + 1) m' H') ∧ ∀ x H', (Itt K t).yld j H x H' → gName i x (wipe σ vs) H' fun σ2 H2 => wipe σ2 vs = wipe σ vs ∧ tYes σ2 H2 fun b H3 =>
        if b = true then te σ2 H3 fun y H4 => ∃ acc, H4 D = some (.lst acc) ∧ acc.length < sizeLine ∧ Nx (upd H4 D (.lst (acc ++ [y]))) else Nx H3) := by
  refine lc_tup (K := K) (a := t) (xs := l.map V.int) (fun j H' => Same H H' ∧ LstI H' D ((l.take j).map f)) ⟨same_upd hD, upd_same⟩ (fun j H' _ h => .of (h.1 _ _ ht)) ?_ ?_
  · rintro j x H1 hx ⟨sm, e⟩
    obtain ⟨z, hz, rfl⟩ := get_int hx
    refine ⟨wp z, step z (List.mem_of_getElem? hz) H1 _ sm ⟨_, e, ?_, sput sm hD, ?_⟩⟩
    · rw [List.length_map, List.length_map]
      have := take_le l j
      exact small (by omega)
    · show upd H1 D _ D = _
      rw [upd_same, ← take_map hz, List.map_append]
      rfl
  · rintro H1 ⟨sm, e⟩
    rw [List.length_map, List.take_length] at e
    exact hd H1 sm e
end Sg
set_option Elab.async false
set_option linter.all false
set_option maxRecDepth 100000
set_option maxHeartbeats 8000000
namespace Sg
open PySem PySem.Spec PyProof.Rows L2
def rMulI : R2 := rI CMul fun i j => .int (i * j)
theorem ne_same (x : Str) : (!decide (V.str x = V.str x)) = false := by
  rw [decide_eq_true rfl]
  rfl
abbrev turnL (n : Nat) (l : List Int) (T : Int) : List Int := srt (l.map fun k => (k + T) % (n : Int))
abbrev mirL (n : Nat) (l : List Int) : List Int := srt (l.map fun k => (-k) % (n : Int))
abbrev mulL (n : Nat) (l : List Int) (M : Int) : List Int := srt (l.map fun k => (k * M) % (n : Int))
abbrev gapR (n : Nat) (l : List Int) : List Int := roll n (gapsL l l)
section
variable {P : Program} {w : World} {K : PySem.W.Frag} {mg : Str → Option Value} {base : Heap}
def spLotsRight : Sp := fun vs H Q _ => ∃ (a : Addr) (n : Nat), vs = [.ref a, .int n] ∧ 0 < n ∧ n ≤ 60 ∧ Spr H a ∧ ∀ H', Ex a H H' → Spr H' a → Q (.bl true) H'
theorem ok_law_lots_right (T : Txt K mg) (B : Blt mg) : FnG P w K mg base 7 T.d_law_lots_right.f T.d_law_lots_right.fd ["_law_spring_here", "_law_n"] spLotsRight := by
  have Gd := ok_law_draw (P := P) (w := w) (base := base) T B
  have Go := ok_law_one_of (P := P) (w := w) (base := base) T B
  have Gl := ok_law_lot (P := P) (w := w) (base := base) T B
  have Gf := ok_law_free (P := P) (w := w) (base := base) T B
  have Gt := ok_turned_round (P := P) (w := w) (base := base) T B
  have Gm := ok_mirrored_round (P := P) (w := w) (base := base) T B
  have Gx := ok_multiplied (P := P) (w := w) (base := base) T B
  have Gr := ok_law_round (P := P) (w := w) (base := base) T.d_law_round B
  have Gg := ok_differences_round (P := P) (w := w) (base := base) T B
  have nd := sc_law_lots_right.nd
  refine Fun.okG T.d_law_lots_right.F sc_law_lots_right (fun vs H Q E h => ?_) (fun cdv A outer s H vs Q E hG hr h => ?_)
  · obtain ⟨a, n, rfl, _⟩ := h
    rfl
  · obtain ⟨a, n, rfl, hn, h60, sp, q⟩ := h
    have hr1 : Room 1 _ := hr.mono (by decide)
    have hr2 : Room 2 _ := hr.mono (by decide)
    have hr3 : Room 3 _ := hr.mono (by decide)
    refine ⟨_, pss_cons (ps_set (i := 2) nd rfl (.inl rfl) (pe_call Gl hr3 (by rfl) T.d_law_lot.g T.d_law_lot.F.kp T.d_law_lot.b .nil pass0 (pa_cons (pv 0) (pa_cons (pv 1) pa_nil))))
      (pss_cons (ps_set (i := 3) nd rfl (.inr rfl) (pe_call Go hr2 (by rfl) T.d_law_one_of.g T.d_law_one_of.F.kp T.d_law_one_of.b .nil pass0 (pa_cons (pv 0) (pa_cons (pe_lst (pa_cons pe_int (pa_cons pe_int (pa_cons (pe_un un_neg pe_int)
          (pa_cons (pe_call Gd hr1 (by rfl) T.d_law_draw.g T.d_law_draw.F.kp T.d_law_draw.b .nil pass0 (pa_cons (pv 0) (pa_cons pe_int pa_nil)))
          (pa_cons (pe_un un_neg (pe_call Gd hr1 (by rfl) T.d_law_draw.g T.d_law_draw.F.kp T.d_law_draw.b .nil pass0 (pa_cons (pv 0) (pa_cons pe_int pa_nil))))
          (pa_cons (pv 1) (pa_cons (pe_op op_pow pe_int pe_int) (pa_cons (pe_op op_sub (pe_un un_neg (pe_op op_pow pe_int pe_int)) pe_int) pa_nil))))))))) pa_nil))))
      (pss_cons (ps_set (i := 4) nd rfl (.inr rfl) (pe_call Go hr2 (by rfl) T.d_law_one_of.g T.d_law_one_of.F.kp T.d_law_one_of.b .nil pass0 (pa_cons (pv 0) (pa_cons
          (pe_call Gf hr1 (by rfl) T.d_law_free.g T.d_law_free.F.kp T.d_law_free.b .nil pass0 (pa_cons (pv 1) pa_nil)) pa_nil))))
      (pss_cons (ps_set (i := 5) nd rfl (.inl rfl) (pe_callTy call_tuple_of (by rfl) B.tup (by decide +kernel) (pa_cons (pe_callB cr_sorted (by rfl) B.srt (by decide +kernel) (pa_cons
          (pe_lc (own := [("_law_k", 10)]) (g := gName 10) (tt := tYes) rfl nd (pi_tup (pv 2)) (blkOk_by (N := ["_law_spring_here", "_law_n", "_law_lot_here", "_law_turn", "_law_many", "_law_further", "_law_mirror", "_law_multiple", "_law_own", "_law_told", "_law_k", "_law_d"]) (sc := defScope s_law_lots_right) (by decide +kernel))
            (fun _ _ _ _ _ => pg_name (i := 10) nd rfl (Or.inl rfl)) (fun _ _ _ _ _ => pts_nil) (fun _ _ _ _ _ => pe_op op_mod (pe_callTy call_int1 (by rfl) B.int (by decide +kernel) (pa_cons (pe_op op_add (pv 10) (pv 3)) pa_nil)) (pv 1))) pa_nil)) pa_nil)))
      (pss_cons (ps_if (pt_cmpR op_ne (pe_callB (call_repr hG hr.units) (by rfl) B.rep (by decide +kernel) (pa_cons (pe_lst (pa_cons
            (pe_call Gt hr (by rfl) T.d_turned_round.g T.d_turned_round.F.kp T.d_turned_round.b .nil pass0 (pa_cons (pv 1) (pa_cons (pv 2) (pa_cons (pv 3) pa_nil)))) (pa_cons
            (pe_kwOnly Gt hr (by rfl) T.d_turned_round.g T.d_turned_round.F.kp (kb_turned T.d_turned_round.F) pass0 (pk_cons (pv 3) (pk_cons (pv 1) (pk_cons (pv 2) pk_nil)))) pa_nil))) pa_nil))
          (pe_callB (call_repr hG hr.units) (by rfl) B.rep (by decide +kernel) (pa_cons (pe_lst (pa_cons (pv 5) (pa_cons (pv 5) pa_nil))) pa_nil)) (nomark _)) (pss_one ps_never) pss_nil)
      (pss_cons (ps_set (i := 6) nd rfl (.inl rfl) (pe_callTy call_tuple_of (by rfl) B.tup (by decide +kernel) (pa_cons (pe_callB cr_sorted (by rfl) B.srt (by decide +kernel) (pa_cons
          (pe_lc (own := [("_law_k", 10)]) (g := gName 10) (tt := tYes) rfl nd (pi_tup (pv 2)) (blkOk_by (N := ["_law_spring_here", "_law_n", "_law_lot_here", "_law_turn", "_law_many", "_law_further", "_law_mirror", "_law_multiple", "_law_own", "_law_told", "_law_k", "_law_d"]) (sc := defScope s_law_lots_right) (by decide +kernel))
            (fun _ _ _ _ _ => pg_name (i := 10) nd rfl (Or.inl rfl)) (fun _ _ _ _ _ => pts_nil) (fun _ _ _ _ _ => pe_ifExp (pt_cmpR op_gt (pv 10) pe_int (nomark _)) (pe_op op_sub (pv 1) (pv 10)) pe_int)) pa_nil)) pa_nil)))
      (pss_cons (ps_if (pt_cmpR op_ne (pe_callB (call_repr hG hr.units) (by rfl) B.rep (by decide +kernel) (pa_cons (pe_lst (pa_cons
            (pe_call Gm hr (by rfl) T.d_mirrored_round.g T.d_mirrored_round.F.kp T.d_mirrored_round.b .nil pass0 (pa_cons (pv 1) (pa_cons (pv 2) pa_nil))) (pa_cons
            (pe_kwOnly Gm hr (by rfl) T.d_mirrored_round.g T.d_mirrored_round.F.kp (kb_mirrored T.d_mirrored_round.F) pass0 (pk_cons (pv 6) (pk_cons (pv 1) pk_nil))) pa_nil))) pa_nil))
          (pe_callB (call_repr hG hr.units) (by rfl) B.rep (by decide +kernel) (pa_cons (pe_lst (pa_cons (pv 6) (pa_cons (pv 2) pa_nil))) pa_nil)) (nomark _)) (pss_one ps_never) pss_nil)
      (pss_cons (ps_set (i := 7) nd rfl (.inl rfl) (pe_callTy call_tuple_of (by rfl) B.tup (by decide +kernel) (pa_cons (pe_callB cr_sorted (by rfl) B.srt (by decide +kernel) (pa_cons
          (pe_lc (own := [("_law_k", 10)]) (g := gName 10) (tt := tYes) rfl nd (pi_tup (pv 2)) (blkOk_by (N := ["_law_spring_here", "_law_n", "_law_lot_here", "_law_turn", "_law_many", "_law_further", "_law_mirror", "_law_multiple", "_law_own", "_law_told", "_law_k", "_law_d"]) (sc := defScope s_law_lots_right) (by decide +kernel))
            (fun _ _ _ _ _ => pg_name (i := 10) nd rfl (Or.inl rfl)) (fun _ _ _ _ _ => pts_nil) (fun _ _ _ _ _ => pe_op op_mod (pe_callTy call_int1 (by rfl) B.int (by decide +kernel) (pa_cons (pe_op op_mul (pv 10) (pv 4)) pa_nil)) (pv 1))) pa_nil)) pa_nil)))
      (pss_cons (ps_if (pt_cmpR op_ne (pe_callB (call_repr hG hr.units) (by rfl) B.rep (by decide +kernel) (pa_cons (pe_lst (pa_cons
            (pe_call Gx hr (by rfl) T.d_multiplied.g T.d_multiplied.F.kp T.d_multiplied.b .nil pass0 (pa_cons (pv 1) (pa_cons (pv 2) (pa_cons (pv 4) pa_nil)))) (pa_cons
            (pe_kwOnly Gx hr (by rfl) T.d_multiplied.g T.d_multiplied.F.kp (kb_multiplied T.d_multiplied.F) pass0 (pk_cons (pv 4) (pk_cons (pv 2) (pk_cons (pv 1) pk_nil)))) pa_nil))) pa_nil))
          (pe_callB (call_repr hG hr.units) (by rfl) B.rep (by decide +kernel) (pa_cons (pe_lst (pa_cons (pv 7) (pa_cons (pv 7) pa_nil))) pa_nil)) (nomark _)) (pss_one ps_never) pss_nil)
      (pss_cons (ps_set (i := 8) nd rfl (.inl rfl) (pe_call Gr hr1 (by rfl) T.d_law_round.g T.d_law_round.F.kp T.d_law_round.b .nil pass0 (pa_cons (pv 1) (pa_cons (pv 2) pa_nil))))
      (pss_cons (ps_if (pt_cmpR op_ne (pe_callB (call_repr hG hr.units) (by rfl) B.rep (by decide +kernel) (pa_cons (pe_lst (pa_cons
            (pe_call Gg hr (by rfl) T.d_differences_round.g T.d_differences_round.F.kp T.d_differences_round.b .nil pass0 (pa_cons (pv 1) (pa_cons (pv 5) pa_nil))) (pa_cons
            (pe_call Gg hr (by rfl) T.d_differences_round.g T.d_differences_round.F.kp T.d_differences_round.b .nil pass0 (pa_cons (pv 1) (pa_cons (pv 6) pa_nil))) pa_nil))) pa_nil))
          (pe_callB (call_repr hG hr.units) (by rfl) B.rep (by decide +kernel) (pa_cons (pe_lst (pa_cons (pv 8) (pa_cons (pv 8) pa_nil))) pa_nil)) (nomark _)) (pss_one ps_never) pss_nil)
      (pss_cons (ps_set (i := 9) nd rfl (.inr rfl) (pe_call Gg hr (by rfl) T.d_differences_round.g T.d_differences_round.F.kp T.d_differences_round.b .nil pass0 (pa_cons (pv 1) (pa_cons (pv 7) pa_nil))))
      (pss_one (ps_ret (pe_cmpR op_eq (pe_callB (call_repr hG hr.units) (by rfl) B.rep (by decide +kernel) (pa_cons
          (pe_lc (own := [("_law_d", 11)]) (g := gName 11) (tt := tYes) (te := tOp (rIxT K) (tVar 9) (tOp rModI (tCB rInt (tCons (tOp rMulI (tVar 4) (tVar 11)) tNil)) (tVar 1))) rfl nd (pi_range1 (by rfl) B.rng (pa_cons (pv 1) pa_nil))
            (blkOk_by (N := ["_law_spring_here", "_law_n", "_law_lot_here", "_law_turn", "_law_many", "_law_further", "_law_mirror", "_law_multiple", "_law_own", "_law_told", "_law_k", "_law_d"]) (sc := defScope s_law_lots_right) (by decide +kernel))
            (fun _ _ _ _ _ => pg_name (i := 11) nd rfl (Or.inl rfl)) (fun _ _ _ _ _ => pts_nil) (fun _ _ _ _ _ => pe_ix ix_tup (pv 9) (pe_op op_mod (pe_callTy call_int1 (by rfl) B.int (by decide +kernel) (pa_cons (pe_op op_mul (pv 4) (pv 11)) pa_nil)) (pv 1)) (fun _ _ => rfl))) pa_nil))
          (pe_callB (call_repr hG hr.units) (by rfl) B.rep (by decide +kernel) (pa_cons (pe_callTy call_list_of (by rfl) B.lst (by decide +kernel) (pa_cons (pv 8) pa_nil)) pa_nil)) (nomark _))))))))))))))), ?_⟩
    -- the lot, the turn, the multiplier
    refine ⟨_, rfl, _, rfl, a, n, rfl, h60, sp, fun H1 t l ex1 sp1 ht1 hl => ?_⟩
    refine ⟨_, rfl, _, rfl, _, rfl, a, 60, rfl, by decide, by decide, sp1, fun H2 d1 ex2 sp2 _ _ => ⟨_, rfl, a, 60, rfl, by decide, by decide, sp2, fun H3 d2 ex3 sp3 _ _ => ?_⟩⟩
    refine ⟨_, rfl, _, rfl, _, _, rfl, rfl, ⟨by decide, by decide, by decide⟩, _, _, rfl, rfl, ⟨by decide, by decide, by decide⟩, _, rfl, _, _, rfl, rfl, by show 8 ≤ sizeLine; decide, fun L hL => ⟨a, L, _, rfl, sp3.new hL, upd_same, sp3.ne_none hL, (by show 0 < 8; decide), (by show 8 < 1000; decide), fun H4 v ex4 sp4 hv => ?_⟩⟩
    obtain ⟨R, rfl⟩ : ∃ R : Int, v = .int R := by
      simp only [List.mem_cons, List.not_mem_nil, or_false] at hv
      rcases hv with rfl | rfl | rfl | rfl | rfl | rfl | rfl | rfl <;> exact ⟨_, rfl⟩
    have exA : Ex a H1 H4 := (ex2.trans (ex3.new hL)).trans ex4
    refine ⟨_, rfl, _, rfl, n, rfl, hn, h60, fun H5 F fs sm5 hF eF ne lenF pr => ⟨a, F, _, rfl, sp4.same sm5, eF, sp4.ne_none hF, ?_, ?_, fun H6 v ex6 sp6 hv => ?_⟩⟩
    · rw [List.length_map]
      exact List.length_pos_iff.mpr ne
    · rw [List.length_map]
      omega
    obtain ⟨M, hM, rfl⟩ := List.mem_map.mp hv
    obtain ⟨m1, m2, mgc⟩ := pr M hM
    have ht4 : TupI H4 t l := exA.tup sp1 ht1
    have ht6 : TupI H6 t l := ex6.tup (sp4.same sm5) (sm5 _ _ ht4)
    have exB : Ex a H H6 := ((ex1.trans exA).trans (.of sm5)).trans ex6
    have len : l.length ≤ 60 := Nat.le_trans hl.len h60
    have l1 := hl.turn hn R
    have l2 := hl.mirror hn
    have l3 := hl.mult hn M mgc
    have fitT := two_ok (l1.fit h60) (l1.fit h60)
    have fitM := two_ok (l2.fit h60) (hl.fit h60)
    have fitX := two_ok (l3.fit h60) (l3.fit h60)
    have fitG := two_ok (gaps_fit h60 len) (gaps_fit (n := n) (l := l) h60 len)
    -- further
    refine ⟨_, rfl, t, rfl, ⟨_, .of ht6⟩, fun D hD => lcI (K := K) (f := fun k => (k + R) % (n : Int)) hD ht6 len (fun _ => rfl) (fun z _ H' Q _ q => ⟨_, rfl, _, rfl, _, _, rfl, rfl, .inl ⟨_, rfl, _, rfl, _, _, rfl, rfl, by show (0 : Int) < (n : Int); omega, q⟩⟩) fun H7 sm7 e7 => ?_⟩
    refine ⟨D, _, rfl, .of e7, by rw [List.length_map]; omega, fun ns p perm up hp => ⟨p, _, rfl, .inl ⟨.of upd_same, fun p5 hp5 => ?_⟩⟩⟩
    obtain rfl := srt_of perm up
    have sm8 := snew (snew sm7 hp (o := .lst ((turnL n l R).map V.int))) hp5 (o := .tup ((turnL n l R).map V.int))
    have e5 : TupI (upd (upd H7 p (.lst ((turnL n l R).map V.int))) p5 (.tup ((turnL n l R).map V.int))) p5 (turnL n l R) := upd_same
    generalize upd (upd H7 p (.lst ((turnL n l R).map V.int))) p5 (.tup ((turnL n l R).map V.int)) = H8 at sm8 e5 ⊢
    have ht8 := sm8 _ _ ht6
    refine ⟨_, rfl, _, rfl, _, rfl, n, t, l, R, rfl, hn, h60, ht8, hl, fun H9 p1 sm9 e1 => ?_⟩
    refine ⟨_, rfl, _, rfl, _, rfl, rfl, rfl, n, t, l, R, rfl, hn, h60, sm9 _ _ ht8, hl, fun H10 p2 sm10 e2 => ?_⟩
    have f5 := sm10 _ _ (sm9 _ _ e5)
    refine ⟨by show 2 ≤ sizeLine; decide, fun q1 hq1 => ⟨q1, _, rfl, dp_two (l := turnL n l R) (m := turnL n l R) upd_same (same_upd hq1 _ _ (sm10 _ _ e1)) (same_upd hq1 _ _ e2), fitT.sh, fitT.nd, fitT.dp, fitT.sz, ?_⟩⟩
    refine ⟨_, rfl, _, rfl, by show 2 ≤ sizeLine; decide, fun q2 hq2 => ⟨q2, _, rfl, dp_two (l := turnL n l R) (m := turnL n l R) upd_same (same_upd hq2 _ _ (same_upd hq1 _ _ f5)) (same_upd hq2 _ _ (same_upd hq1 _ _ f5)), fitT.sh, fitT.nd, fitT.dp, fitT.sz, rfl, _, rfl, if_f (ne_same _) ?_⟩⟩
    have smx := snew (same_upd (o := .lst [V.ref p1, V.ref p2]) hq1) hq2 (o := .lst [V.ref p5, V.ref p5])
    have smA := (sm8.trans sm9).trans (sm10.trans smx)
    have f5A := smx _ _ f5
    have ht9 := smA _ _ ht6
    clear smx
    generalize upd (upd H10 q1 (.lst [V.ref p1, V.ref p2])) q2 (.lst [V.ref p5, V.ref p5]) = HA at smA f5A ht9 ⊢
    clear hq1 hq2
    -- mirror
    refine ⟨_, rfl, t, rfl, ⟨_, .of ht9⟩, fun D hD => lcI (K := K) (f := fun k => if 0 < k then (n : Int) - k else 0) hD ht9 len (fun _ => rfl) (fun z _ H' Q _ q => ⟨_, rfl, _, _, rfl, rfl, _, rfl, ite2 (fun hz => ⟨_, rfl, _, rfl, _, _, rfl, rfl, ?_⟩) (fun hz => ?_)⟩) fun HB smB eB => ?_⟩
    · rw [if_pos (of_decide_eq_true hz)] at q
      exact q
    · rw [if_neg (fun h => hz (decide_eq_true h))] at q
      exact q
    refine ⟨D, _, rfl, .of eB, by rw [List.length_map]; omega, fun ns p perm up hp => ⟨p, _, rfl, .inl ⟨.of upd_same, fun p6 hp6 => ?_⟩⟩⟩
    rw [← mirror_eq hl] at perm
    obtain rfl := srt_of perm up
    have smC := snew (snew smB hp (o := .lst ((mirL n l).map V.int))) hp6 (o := .tup ((mirL n l).map V.int))
    have e6 : TupI (upd (upd HB p (.lst ((mirL n l).map V.int))) p6 (.tup ((mirL n l).map V.int))) p6 (mirL n l) := upd_same
    generalize upd (upd HB p (.lst ((mirL n l).map V.int))) p6 (.tup ((mirL n l).map V.int)) = HC at smC e6 ⊢
    have htC := smC _ _ ht9
    have f5C := smC _ _ f5A
    refine ⟨_, rfl, _, rfl, n, t, l, rfl, hn, h60, htC, hl, fun H9 p1 sm9 e1 => ?_⟩
    refine ⟨_, rfl, _, rfl, rfl, rfl, n, p6, mirL n l, rfl, hn, h60, sm9 _ _ e6, l2, fun H10 p2 sm10 e2 => ?_⟩
    rw [mirror_mirror hl] at e2
    have f6 := sm10 _ _ (sm9 _ _ e6)
    have ft := sm10 _ _ (sm9 _ _ htC)
    refine ⟨by show 2 ≤ sizeLine; decide, fun q1 hq1 => ⟨q1, _, rfl, dp_two (l := mirL n l) (m := l) upd_same (same_upd hq1 _ _ (sm10 _ _ e1)) (same_upd hq1 _ _ e2), fitM.sh, fitM.nd, fitM.dp, fitM.sz, ?_⟩⟩
    refine ⟨_, rfl, _, rfl, by show 2 ≤ sizeLine; decide, fun q2 hq2 => ⟨q2, _, rfl, dp_two (l := mirL n l) (m := l) upd_same (same_upd hq2 _ _ (same_upd hq1 _ _ f6)) (same_upd hq2 _ _ (same_upd hq1 _ _ ft)), fitM.sh, fitM.nd, fitM.dp, fitM.sz, rfl, _, rfl, if_f (ne_same _) ?_⟩⟩
    have smx := snew (same_upd (o := .lst [V.ref p1, V.ref p2]) hq1) hq2 (o := .lst [V.ref p6, V.ref t])
    have smD := ((smA.trans smC).trans sm9).trans (sm10.trans smx)
    have f5D := smx _ _ (sm10 _ _ (sm9 _ _ f5C))
    have f6D := smx _ _ f6
    have htD := smD _ _ ht6
    clear smx
    generalize upd (upd H10 q1 (.lst [V.ref p1, V.ref p2])) q2 (.lst [V.ref p6, V.ref t]) = HD at smD f5D f6D htD ⊢
    clear hq1 hq2
    -- multiple
    refine ⟨_, rfl, t, rfl, ⟨_, .of htD⟩, fun D hD => lcI (K := K) (f := fun k => (k * M) % (n : Int)) hD htD len (fun _ => rfl) (fun z hz H' Q _ q => ⟨_, rfl, _, rfl, _, _, rfl, rfl, .inl ?_, .inl ⟨_, rfl, _, rfl, _, _, rfl, rfl, by show (0 : Int) < (n : Int); omega, q⟩⟩) fun HE smE eE => ?_⟩
    · have a1 := hl.ge z hz
      have a2 := hl.lt z hz
      exact ⟨by omega, by omega⟩
    refine ⟨D, _, rfl, .of eE, by rw [List.length_map]; omega, fun ns p perm up hp => ⟨p, _, rfl, .inl ⟨.of upd_same, fun p7 hp7 => ?_⟩⟩⟩
    obtain rfl := srt_of perm up
    have smF := snew (snew smE hp (o := .lst ((mulL n l M).map V.int))) hp7 (o := .tup ((mulL n l M).map V.int))
    have e7' : TupI (upd (upd HE p (.lst ((mulL n l M).map V.int))) p7 (.tup ((mulL n l M).map V.int))) p7 (mulL n l M) := upd_same
    generalize upd (upd HE p (.lst ((mulL n l M).map V.int))) p7 (.tup ((mulL n l M).map V.int)) = HF at smF e7' ⊢
    have htF := smF _ _ htD
    refine ⟨_, rfl, _, rfl, _, rfl, n, t, l, M, rfl, hn, h60, htF, hl, m1, m2, mgc, fun H9 p1 sm9 e1 => ?_⟩
    refine ⟨_, rfl, _, rfl, _, rfl, rfl, rfl, n, t, l, M, rfl, hn, h60, sm9 _ _ htF, hl, m1, m2, mgc, fun H10 p2 sm10 e2 => ?_⟩
    have f7 := sm10 _ _ (sm9 _ _ e7')
    refine ⟨by show 2 ≤ sizeLine; decide, fun q1 hq1 => ⟨q1, _, rfl, dp_two (l := mulL n l M) (m := mulL n l M) upd_same (same_upd hq1 _ _ (sm10 _ _ e1)) (same_upd hq1 _ _ e2), fitX.sh, fitX.nd, fitX.dp, fitX.sz, ?_⟩⟩
    refine ⟨_, rfl, _, rfl, by show 2 ≤ sizeLine; decide, fun q2 hq2 => ⟨q2, _, rfl, dp_two (l := mulL n l M) (m := mulL n l M) upd_same (same_upd hq2 _ _ (same_upd hq1 _ _ f7)) (same_upd hq2 _ _ (same_upd hq1 _ _ f7)), fitX.sh, fitX.nd, fitX.dp, fitX.sz, rfl, _, rfl, if_f (ne_same _) ?_⟩⟩
    have smx := snew (same_upd (o := .lst [V.ref p1, V.ref p2]) hq1) hq2 (o := .lst [V.ref p7, V.ref p7])
    have smG := ((smD.trans smF).trans sm9).trans (sm10.trans smx)
    have f5G := smx _ _ (sm10 _ _ (sm9 _ _ (smF _ _ f5D)))
    have f6G := smx _ _ (sm10 _ _ (sm9 _ _ (smF _ _ f6D)))
    have f7G := smx _ _ f7
    have htG := smG _ _ ht6
    clear smx
    generalize upd (upd H10 q1 (.lst [V.ref p1, V.ref p2])) q2 (.lst [V.ref p7, V.ref p7]) = HG' at smG f5G f6G f7G htG ⊢
    clear hq1 hq2
    -- the differences round
    refine ⟨_, rfl, _, rfl, n, t, l, rfl, hn, h60, htG, fun HI p8 smI e8 => ?_⟩
    refine ⟨_, rfl, _, rfl, n, p5, turnL n l R, rfl, hn, h60, smI _ _ f5G, l1, fun H9 p1 sm9 e1 => ?_⟩
    refine ⟨_, rfl, _, rfl, n, p6, mirL n l, rfl, hn, h60, sm9 _ _ (smI _ _ f6G), l2, fun H10 p2 sm10 e2 => ?_⟩
    rw [gaps_turn] at e1
    rw [gaps_mirror] at e2
    have f8 := sm10 _ _ (sm9 _ _ e8)
    refine ⟨by show 2 ≤ sizeLine; decide, fun q1 hq1 => ⟨q1, _, rfl, dp_two (l := gapR n l) (m := gapR n l) upd_same (same_upd hq1 _ _ (sm10 _ _ e1)) (same_upd hq1 _ _ e2), fitG.sh, fitG.nd, fitG.dp, fitG.sz, ?_⟩⟩
    refine ⟨_, rfl, _, rfl, by show 2 ≤ sizeLine; decide, fun q2 hq2 => ⟨q2, _, rfl, dp_two (l := gapR n l) (m := gapR n l) upd_same (same_upd hq2 _ _ (same_upd hq1 _ _ f8)) (same_upd hq2 _ _ (same_upd hq1 _ _ f8)), fitG.sh, fitG.nd, fitG.dp, fitG.sz, rfl, _, rfl, if_f (ne_same _) ?_⟩⟩
    have smx := snew (same_upd (o := .lst [V.ref p1, V.ref p2]) hq1) hq2 (o := .lst [V.ref p8, V.ref p8])
    have smJ := ((smG.trans smI).trans sm9).trans (sm10.trans smx)
    have f7J := smx _ _ (sm10 _ _ (sm9 _ _ (smI _ _ f7G)))
    have f8J := smx _ _ f8
    clear smx
    generalize upd (upd H10 q1 (.lst [V.ref p1, V.ref p2])) q2 (.lst [V.ref p8, V.ref p8]) = HJ at smJ f7J f8J ⊢
    clear hq1 hq2
    -- what a multiplied lot has
    refine ⟨_, rfl, _, rfl, n, p7, mulL n l M, rfl, hn, h60, f7J, l3, fun HK p9 smK e9 => ?_⟩
    refine ⟨_, rfl, (n : Int), rfl, by omega, by omega, fun D hD => lc_range (lo := 0) (n := (n : Int).toNat) (fun i H' => Same HK H' ∧ LstI H' D ((gapR n l).take i)) ⟨same_upd hD, upd_same⟩ ?_ ?_⟩
    · rintro i H' hi ⟨sm, e⟩
      have hi' : i < n := by omega
      obtain ⟨k, hk, kn⟩ := emod_nat (M * (i : Int)) hn
      have g : atI ((gapR n (mulL n l M)).map V.int) ((M * (0 + (i : Int))) % (n : Int)) = some (.int (at_ n (gapsL l l) (i : Int))) := by
        rw [Int.zero_add, hk, ← gaps_mult hn l M mgc (i : Int) (by omega) (by omega), hk]
        exact atI_nat (at_int (roll_get kn))
      refine ⟨rfl, _, rfl, _, rfl, _, rfl, _, _, rfl, rfl, .inl ⟨by omega, by omega⟩, .inl ⟨_, rfl, _, rfl, _, _, rfl, rfl, by show (0 : Int) < (n : Int); omega, p9, _, _, _, rfl, rfl, .of (sm _ _ e9), g, _, e, ?_, sput sm hD, ?_⟩⟩
      · rw [List.length_map]
        have := take_le (gapR n l) i
        rw [roll_length] at this
        exact small (by omega)
      · show upd H' D _ D = _
        rw [upd_same, take_more (roll_get hi'), List.map_append]
        rfl
    · rintro H' ⟨sm, e⟩
      rw [Int.toNat_natCast, List.take_of_length_le (by rw [roll_length]; exact Nat.le_refl _)] at e
      have fit := fits_list (gaps_fit (n := n) (l := l) h60 len).2 (gaps_fit (n := n) (l := l) h60 len).1
      have f8K := sm _ _ (smK _ _ f8J)
      refine ⟨D, _, rfl, .lst (.of e) (dp_ints (gapR n l)), fit.sh, fit.nd, fit.dp, fit.sz, ?_⟩
      refine ⟨_, rfl, p8, _, rfl, .inr (.of f8K), fun p hp => ⟨p, _, rfl, .lst (.of upd_same) (dp_ints (gapR n l)), fit.sh, fit.nd, fit.dp, fit.sz, rfl, ?_⟩⟩
      have all : Ex a H (upd H' p (.lst ((gapR n l).map V.int))) := exB.trans (.of (snew ((smJ.trans smK).trans sm) hp))
      have spE : Spr (upd H' p (.lst ((gapR n l).map V.int))) a := sp6.same (snew ((smJ.trans smK).trans sm) hp)
      exact (congrArg (fun b => Q (.bl b) (upd H' p (.lst ((gapR n l).map V.int)))) (decide_eq_true (p := V.str _ = V.str _) rfl)).mpr (q _ all spE)
end
end Sg
set_option Elab.async false
set_option linter.all false
set_option maxRecDepth 100000
set_option maxHeartbeats 8000000
namespace Sg
open PySem PySem.Spec PyProof.Rows L2
theorem shaped_tup (ns : List Int) : SeqAt.shaped (.tuple (ns.map PyData.int)) = true := by
  simp [SeqAt.shaped, PyData.canLay0, PyData.depth, PySem.W.ke_canLayAll0, PySem.W.ke_depthAll]
theorem eqv_tup (ns : List Int) : PyData.eqv (.tuple (ns.map PyData.int)) (.tuple (ns.map PyData.int)) = true :=
  SeqAt.eqv_refl _ (by simp only [PyData.canLay0]; exact PySem.W.ke_canLayAll0 ns)
/-- the entries of a rolled product -/
theorem prod_entry {n : Nat} {P A B : List (Int × Int)} {s : Int} (h : IsProd P A B s) (lA : A.length ≤ 6) (lB : B.length ≤ 6) (bA : ∀ x ∈ A, x.2.natAbs ≤ 1000000000) (bB : ∀ x ∈ B, x.2.natAbs ≤ 1000000000) :
    ∀ x ∈ roll n P, x.natAbs < 10 ^ 20 := fun x hx => by
  obtain ⟨d, rfl⟩ := roll_mem hx
  rw [at_wt, h]
  have one : ∀ a ∈ A, (sm B fun b => ind n (a.1 + s * b.1) (d : Int) * (a.2 * b.2)).natAbs ≤ 6 * (1000000000 * 1000000000) := fun a ha => by
    have h1 := sm_bound B (fun b => ind n (a.1 + s * b.1) (d : Int) * (a.2 * b.2)) (1000000000 * 1000000000) fun b hb => by
      show (ind n (a.1 + s * b.1) (d : Int) * (a.2 * b.2)).natAbs ≤ _
      have m := Nat.mul_le_mul (bA a ha) (bB b hb)
      rw [← Int.natAbs_mul] at m
      unfold ind
      split
      · rw [Int.one_mul]
        exact m
      · rw [Int.zero_mul]
        exact Nat.zero_le _
    exact Nat.le_trans h1 (Nat.mul_le_mul_right _ lB)
  have h2 := sm_bound A _ _ one
  have h3 := Nat.mul_le_mul_right (6 * (1000000000 * 1000000000)) lA
  exact Nat.lt_of_le_of_lt (Nat.le_trans h2 h3) (by decide)
theorem prod_fit {n : Nat} {P A B : List (Int × Int)} {s : Int} (hn : n ≤ 60) (h : IsProd P A B s) (lA : A.length ≤ 6) (lB : B.length ≤ 6) (bA : ∀ x ∈ A, x.2.natAbs ≤ 1000000000) (bB : ∀ x ∈ B, x.2.natAbs ≤ 1000000000) :
    (roll n P).length ≤ 60 ∧ ∀ x ∈ roll n P, x.natAbs < 10 ^ 20 := ⟨by rw [roll_length]; exact hn, prod_entry h lA lB bA bB⟩
theorem row_fit {n : Nat} {A : List (Int × Int)} (hn : n ≤ 60) (lA : A.length ≤ 6) (bA : ∀ x ∈ A, x.2.natAbs ≤ 1000000000) : (roll n A).length ≤ 60 ∧ ∀ x ∈ roll n A, x.natAbs < 10 ^ 20 :=
  roll_fit hn bA (Nat.lt_of_le_of_lt (Nat.mul_le_mul_right _ lA) (by decide))
theorem big {l : List Int} (h : ∀ x ∈ l, x.natAbs < 10 ^ 20) : ∀ x ∈ l, x.natAbs < 2 ^ 100 := fun x hx => Nat.lt_trans (h x hx) (by decide)
theorem w60 {A : List (Int × Int)} (bA : ∀ x ∈ A, x.2.natAbs ≤ 1000000000) : ∀ x ∈ A, x.2.natAbs < 2 ^ 60 := fun x hx => Nat.lt_of_le_of_lt (bA x hx) (by decide)
theorem row_nil : Row [] := ⟨.nil, fun x hx => by simp at hx⟩
section
variable {P : Program} {w : World} {K : PySem.W.Frag} {mg : Str → Option Value} {base : Heap}
def spRight : Sp := fun vs H Q _ => ∃ a : Addr, vs = [.ref a] ∧ Spr H a ∧ ∀ H', Ex a H H' → Q (.bl true) H'
theorem ok_law_right (T : Txt K mg) (B : Blt mg) : FnG P w K mg base 8 T.d_law_right.f T.d_law_right.fd ["_law_spring_here"] spRight := by
  have Gring := ok_law_ring (P := P) (w := w) (base := base) T B
  have GL := ok_law_lots_right (P := P) (w := w) (base := base) T B
  have Grow := ok_law_row (P := P) (w := w) (base := base) T B
  have Glr := ok_law_rolled (P := P) (w := w) (base := base) T.d_law_rolled B
  have Gro := ok_rolled (P := P) (w := w) (base := base) T B
  have Gpr := ok_product (P := P) (w := w) (base := base) T B
  have Gmi := ok_mirrored (P := P) (w := w) (base := base) T B
  have Gti := ok_law_times_round (P := P) (w := w) (base := base) T.d_law_times_round B
  have nd := sc_law_right.nd
  refine Fun.okG T.d_law_right.F sc_law_right (fun vs H Q E h => ?_) (fun cdv A outer s H vs Q E hG hr h => ?_)
  · obtain ⟨a, rfl, _⟩ := h
    rfl
  · obtain ⟨a, rfl, sp, q⟩ := h
    have hr1 : Room 1 _ := hr.mono (by decide)
    have hr3 : Room 3 _ := hr.mono (by decide)
    have hr4 : Room 4 _ := hr.mono (by decide)
    have hr5 : Room 5 _ := hr.mono (by decide)
    refine ⟨_, pss_cons (ps_set (i := 1) nd rfl (.inl rfl) (pe_call Gring hr3 (by rfl) T.d_law_ring.g T.d_law_ring.F.kp T.d_law_ring.b .nil pass0 (pa_cons (pv 0) pa_nil)))
      (pss_cons (ps_if (pt_not (pt_val (pe_callG GL hG hr (by rfl) T.d_law_lots_right.g T.d_law_lots_right.F.kp T.d_law_lots_right.b (pa_cons (pv 0) (pa_cons (pv 1) pa_nil))))) (pss_one ps_never) pss_nil)
      (pss_cons (ps_par (i := 2) (j := 3) rfl nd rfl rfl (by decide) rfl rfl (pa_cons (pe_call Grow hr3 (by rfl) T.d_law_row.g T.d_law_row.F.kp T.d_law_row.b .nil pass0 (pa_cons (pv 0) pa_nil)) (pa_cons (pe_call Grow hr3 (by rfl) T.d_law_row.g T.d_law_row.F.kp T.d_law_row.b .nil pass0 (pa_cons (pv 0) pa_nil)) pa_nil)) (by rfl))
      (pss_cons (ps_par (i := 4) (j := 5) rfl nd rfl rfl (by decide) rfl rfl (pa_cons (pe_call Glr hr1 (by rfl) T.d_law_rolled.g T.d_law_rolled.F.kp T.d_law_rolled.b .nil pass0 (pa_cons (pv 1) (pa_cons (pv 2) pa_nil)))
          (pa_cons (pe_call Glr hr1 (by rfl) T.d_law_rolled.g T.d_law_rolled.F.kp T.d_law_rolled.b .nil pass0 (pa_cons (pv 1) (pa_cons (pv 3) pa_nil))) pa_nil)) (by rfl))
      (pss_cons (ps_if (pt_cmpR op_ne (pe_callB (call_repr hG hr.units) (by rfl) B.rep (by decide +kernel) (pa_cons (pe_lst (pa_cons
            (pe_call Gro hr5 (by rfl) T.d_rolled.g T.d_rolled.F.kp T.d_rolled.b .nil pass0 (pa_cons (pv 1) (pa_cons (pv 2) pa_nil))) (pa_cons
            (pe_kwOnly Gro hr5 (by rfl) T.d_rolled.g T.d_rolled.F.kp (kb_rolled T.d_rolled.F) pass0 (pk_cons (pv 3) (pk_cons (pv 1) pk_nil))) (pa_cons
            (pe_call Gro hr5 (by rfl) T.d_rolled.g T.d_rolled.F.kp T.d_rolled.b .nil pass0 (pa_cons (pv 1) (pa_cons (pe_tup pa_nil) pa_nil))) pa_nil)))) pa_nil))
          (pe_callB (call_repr hG hr.units) (by rfl) B.rep (by decide +kernel) (pa_cons (pe_lst (pa_cons (pv 4) (pa_cons (pv 5) (pa_cons
            (pe_callTy call_tuple_of (by rfl) B.tup (by decide +kernel) (pa_cons (pe_op op_rep (pe_lst (pa_cons pe_int pa_nil)) (pv 1)) pa_nil)) pa_nil)))) pa_nil)) (nomark _)) (pss_one ps_never) pss_nil)
      (pss_cons (ps_par (i := 6) (j := 7) rfl nd rfl rfl (by decide) rfl rfl (pa_cons (pe_call Gro hr5 (by rfl) T.d_rolled.g T.d_rolled.F.kp T.d_rolled.b .nil pass0 (pa_cons (pv 1) (pa_cons
            (pe_call Gpr hr5 (by rfl) T.d_product.g T.d_product.F.kp T.d_product.b .nil pass0 (pa_cons (pv 2) (pa_cons (pv 3) pa_nil))) pa_nil)))
          (pa_cons (pe_call Gro hr5 (by rfl) T.d_rolled.g T.d_rolled.F.kp T.d_rolled.b .nil pass0 (pa_cons (pv 1) (pa_cons
            (pe_call Gpr hr5 (by rfl) T.d_product.g T.d_product.F.kp T.d_product.b .nil pass0 (pa_cons (pv 2) (pa_cons (pe_call Gmi hr4 (by rfl) T.d_mirrored.g T.d_mirrored.F.kp T.d_mirrored.b .nil pass0 (pa_cons (pv 3) pa_nil)) pa_nil))) pa_nil))) pa_nil)) (by rfl))
      (pss_cons (ps_if (pt_cmpR op_ne (pe_callB (call_repr hG hr.units) (by rfl) B.rep (by decide +kernel) (pa_cons (pv 6) pa_nil))
          (pe_callB (call_repr hG hr.units) (by rfl) B.rep (by decide +kernel) (pa_cons (pe_call Gti hr1 (by rfl) T.d_law_times_round.g T.d_law_times_round.F.kp T.d_law_times_round.b .nil pass0 (pa_cons (pv 4) (pa_cons (pv 5) (pa_cons pe_int pa_nil)))) pa_nil)) (nomark _)) (pss_one ps_never) pss_nil)
      (pss_cons (ps_if (pt_cmpR op_ne (pe_callB (call_repr hG hr.units) (by rfl) B.rep (by decide +kernel) (pa_cons (pv 7) pa_nil))
          (pe_callB (call_repr hG hr.units) (by rfl) B.rep (by decide +kernel) (pa_cons (pe_call Gti hr1 (by rfl) T.d_law_times_round.g T.d_law_times_round.F.kp T.d_law_times_round.b .nil pass0 (pa_cons (pv 4) (pa_cons (pv 5) (pa_cons (pe_un un_neg pe_int) pa_nil)))) pa_nil)) (nomark _)) (pss_one ps_never) pss_nil)
      (pss_one (ps_ret (pe_cmpR (op_eqD hr.units) (pe_call Gti hr1 (by rfl) T.d_law_times_round.g T.d_law_times_round.F.kp T.d_law_times_round.b .nil pass0 (pa_cons (pv 6) (pa_cons (pv 6) (pa_cons (pe_un un_neg pe_int) pa_nil))))
          (pe_call Gti hr1 (by rfl) T.d_law_times_round.g T.d_law_times_round.F.kp T.d_law_times_round.b .nil pass0 (pa_cons (pv 7) (pa_cons (pv 7) (pa_cons (pe_un un_neg pe_int) pa_nil)))) (nomark _))))))))))), ?_⟩
    -- the ring, its lots
    refine ⟨_, rfl, a, rfl, sp, fun H1 n ex1 sp1 hn h60 => ?_⟩
    refine ⟨_, rfl, _, rfl, a, n, rfl, hn, h60, sp1, fun H2 ex2 sp2 => ⟨true, rfl, iteF ?_⟩⟩
    -- two rows
    refine ⟨_, rfl, a, rfl, sp2, fun H3 p1 A ex3 sp3 rA rowA lA bA => ⟨_, rfl, a, rfl, sp3, fun H4 p2 Bw ex4 sp4 rB rowB lB bB => ⟨_, _, rfl, ?_⟩⟩⟩
    have rA4 : RowAt H4 p1 A := rA.ex sp3 ex4
    have ex : Ex a H H4 := ((ex1.trans ex2).trans ex3).trans ex4
    have fA := row_fit (n := n) h60 lA bA
    have fB := row_fit (n := n) h60 lB bB
    have f0 : (roll n []).length ≤ 60 ∧ ∀ x ∈ roll n [], x.natAbs < 10 ^ 20 := row_fit (A := []) h60 (by decide) (by simp)
    have P1 := prod_is A Bw
    have P2 := (prod_is A (mir Bw)).mir
    have f1 := prod_fit (n := n) h60 P1 lA lB bA bB
    have f2 := prod_fit (n := n) h60 P2 lA lB bA bB
    have fit3 := three_ok fA fB f0
    have fit1 := fits_tup f1.2 f1.1
    have fit2 := fits_tup f2.2 f2.1
    have len40 : A.length * Bw.length ≤ 400 := by
      have := Nat.mul_le_mul lA lB
      omega
    have lM : (mir Bw).length ≤ 6 := by rw [mir_len]; exact lB
    have len41 : A.length * (mir Bw).length ≤ 400 := by
      have := Nat.mul_le_mul lA lM
      omega
    -- rolled by the law
    refine ⟨_, rfl, _, rfl, n, p1, A, rfl, hn, h60, rA4, fun H5 p4 sm5 e4 => ⟨_, rfl, _, rfl, n, p2, Bw, rfl, hn, h60, rB.same sm5, fun H6 p5 sm6 e5 => ⟨_, _, rfl, ?_⟩⟩⟩
    have e4' := sm6 _ _ e4
    have rA6 := (rA4.same sm5).same sm6
    have rB6 := (rB.same sm5).same sm6
    -- rolled by the program
    refine ⟨_, rfl, _, rfl, n, p1, A, rfl, hn, h60, rA6, rowA, by omega, fun H7 x1 sm7 ex1' => ?_⟩
    refine ⟨_, rfl, _, rfl, rfl, rfl, n, p2, Bw, rfl, hn, h60, rB6.same sm7, rowB, by omega, fun H8 x2 sm8 ex2' => ?_⟩
    refine ⟨_, rfl, Nat.zero_le _, fun z hz => ⟨n, z, [], rfl, hn, h60, ⟨[], upd_same, Cells.nil⟩, row_nil, Nat.zero_le _, fun H9 x3 sm9 ex3' => ?_⟩⟩
    have s89 : Same H8 H9 := (same_upd hz).trans sm9
    have s69 : Same H6 H9 := (sm7.trans sm8).trans s89
    refine ⟨by show 3 ≤ sizeLine; decide, fun q1 hq1 => ⟨q1, _, rfl, dp_three (l := roll n A) (m := roll n Bw) (k := roll n []) upd_same (same_upd hq1 _ _ (s89 _ _ (sm8 _ _ ex1'))) (same_upd hq1 _ _ (s89 _ _ ex2')) (same_upd hq1 _ _ ex3'), fit3.sh, fit3.nd, fit3.dp, fit3.sz, ?_⟩⟩
    have s6q := snew s69 hq1 (o := .lst [V.ref x1, V.ref x2, V.ref x3])
    refine ⟨_, rfl, _, rfl, by decide, fun Z hZ => ⟨_, rfl, Z, (n : Int), [.int 0], rfl, rfl, upd_same, by omega, by omega, ?_, fun F hF => ?_⟩⟩
    · rw [Int.toNat_natCast]
      exact small' (by show 1 * n ≤ 4000; omega)
    have s6F := snew (snew s6q hZ (o := .lst [.int 0])) hF (o := .lst (List.replicate (n : Int).toNat [V.int 0]).flatten)
    refine ⟨F, _, rfl, .inl ⟨.of upd_same, fun p6 hp6 => ?_⟩⟩
    have s6p := snew s6F hp6 (o := .tup (List.replicate (n : Int).toNat [V.int 0]).flatten)
    have e6 : (upd (upd (upd (upd H9 q1 (.lst [V.ref x1, V.ref x2, V.ref x3])) Z (.lst [.int 0])) F (.lst (List.replicate (n : Int).toNat [V.int 0]).flatten)) p6 (.tup (List.replicate (n : Int).toNat [V.int 0]).flatten)) p6 = some (.tup ((roll n []).map V.int)) := by
      rw [upd_same, Int.toNat_natCast, rep_roll]
    generalize upd (upd (upd (upd H9 q1 (.lst [V.ref x1, V.ref x2, V.ref x3])) Z (.lst [.int 0])) F (.lst (List.replicate (n : Int).toNat [V.int 0]).flatten)) p6 (.tup (List.replicate (n : Int).toNat [V.int 0]).flatten) = HA at s6p e6 ⊢
    refine ⟨by show 3 ≤ sizeLine; decide, fun q2 hq2 => ⟨q2, _, rfl, dp_three (l := roll n A) (m := roll n Bw) (k := roll n []) upd_same (same_upd hq2 _ _ (s6p _ _ e4')) (same_upd hq2 _ _ (s6p _ _ e5)) (same_upd hq2 _ _ e6), fit3.sh, fit3.nd, fit3.dp, fit3.sz, rfl, _, rfl, if_f (ne_same _) ?_⟩⟩
    have smB := snew s6p hq2 (o := .lst [V.ref p4, V.ref p5, V.ref p6])
    generalize upd HA q2 (.lst [V.ref p4, V.ref p5, V.ref p6]) = HB at smB ⊢
    clear hq2 s6p e6 s6F s6q hq1 hZ hF hp6
    have rAB := rA6.same smB
    have rBB := rB6.same smB
    have e4B := smB _ _ e4'
    have e5B := smB _ _ e5
    -- the products
    refine ⟨_, rfl, _, rfl, _, rfl, p1, p2, A, Bw, rfl, rAB, rBB, rowA, rowB, by omega, by omega, w60 bA, fun HC g1 smC rP1 => ?_⟩
    refine ⟨n, g1, prodRow A Bw, rfl, hn, h60, rP1, prod_row A Bw, Nat.le_trans (prod_len A Bw) len40, fun HD p7 smD e7 => ?_⟩
    have sBD := smC.trans smD
    refine ⟨_, rfl, _, rfl, _, rfl, p2, Bw, rfl, rBB.same sBD, rowB, by omega, fun HE g2 smE rM => ?_⟩
    refine ⟨p1, g2, A, mir Bw, rfl, (rAB.same sBD).same smE, rM, rowA, rowB.mir, by omega, by omega, w60 bA, fun HF g3 smF rP2 => ?_⟩
    refine ⟨n, g3, prodRow A (mir Bw), rfl, hn, h60, rP2, prod_row A (mir Bw), Nat.le_trans (prod_len A (mir Bw)) len41, fun HG' p8 smG e8 => ⟨_, _, rfl, ?_⟩⟩
    have sDG := (smE.trans smF).trans smG
    have e7G := sDG _ _ e7
    have e4G := sDG _ _ (sBD _ _ e4B)
    have e5G := sDG _ _ (sBD _ _ e5B)
    have lenR : ∀ L : List (Int × Int), 0 < (roll n L).length ∧ (roll n L).length ≤ 60 := fun L => by
      rw [roll_length]
      exact ⟨hn, h60⟩
    -- of a product the product round
    refine ⟨_, rfl, p7, _, rfl, .tup (.of e7G) (dp_ints _), fit1.sh, fit1.nd, fit1.dp, fit1.sz, ?_⟩
    refine ⟨_, rfl, _, rfl, p4, p5, roll n A, roll n Bw, 1, rfl, e4G, e5G, (lenR A).1, (lenR A).2, (lenR Bw).2, by decide, by decide, big fA.2, big fB.2, fun HH t1 smH et1 => ?_⟩
    rw [roll_length, ← roll_prod hn P1] at et1
    refine ⟨t1, _, rfl, .tup (.of et1) (dp_ints _), fit1.sh, fit1.nd, fit1.dp, fit1.sz, rfl, _, rfl, if_f (ne_same _) ?_⟩
    have e8H := smH _ _ e8
    refine ⟨_, rfl, p8, _, rfl, .tup (.of e8H) (dp_ints _), fit2.sh, fit2.nd, fit2.dp, fit2.sz, ?_⟩
    refine ⟨_, rfl, _, rfl, _, rfl, p4, p5, roll n A, roll n Bw, -1, rfl, smH _ _ e4G, smH _ _ e5G, (lenR A).1, (lenR A).2, (lenR Bw).2, by decide, by decide, big fA.2, big fB.2, fun HI t2 smI et2 => ?_⟩
    rw [roll_length, ← roll_prod hn P2] at et2
    refine ⟨t2, _, rfl, .tup (.of et2) (dp_ints _), fit2.sh, fit2.nd, fit2.dp, fit2.sz, rfl, _, rfl, if_f (ne_same _) ?_⟩
    -- the same differences round
    have e7I := smI _ _ (smH _ _ e7G)
    have e8I := smI _ _ e8H
    refine ⟨_, rfl, _, rfl, _, rfl, p7, p7, roll n (prodRow A Bw), roll n (prodRow A Bw), -1, rfl, e7I, e7I, (lenR _).1, (lenR _).2, (lenR _).2, by decide, by decide, big f1.2, big f1.2, fun HJ t3 smJ et3 => ?_⟩
    refine ⟨_, rfl, _, rfl, _, rfl, p8, p8, roll n (prodRow A (mir Bw)), roll n (prodRow A (mir Bw)), -1, rfl, smJ _ _ e8I, smJ _ _ e8I, (lenR _).1, (lenR _).2, (lenR _).2, by decide, by decide, big f2.2, big f2.2, fun HK t4 smK et4 => ?_⟩
    rw [roll_length] at et3 et4
    rw [← same_round hn P1 P2] at et4
    refine ⟨_, _, .tup (.of (smK _ _ et3)) (dp_ints _), .tup (.of et4) (dp_ints _), shaped_tup _, shaped_tup _, ?_⟩
    rw [eqv_tup]
    exact q HK (ex.trans (.of (((((((sm5.trans sm6).trans smB).trans sBD).trans sDG).trans smH).trans smI).trans (smJ.trans smK))))
end
end Sg
set_option Elab.async false
set_option linter.all false
set_option maxRecDepth 100000
set_option maxHeartbeats 8000000
namespace Sg
open PySem PySem.Spec PyProof.Rows L2
/-- a call's reading, by a name of its own -/
def tCallG (sp : Sp) (t : TA) : TE := fun σ H Q => t σ H fun vs H1 => sp vs H1 Q E0
theorem all_true (n : Nat) : (List.replicate n true).all id = true := by
  rw [List.all_eq_true]
  intro x hx
  rw [List.eq_of_mem_replicate hx]
  rfl
section
variable {P : Program} {w : World} {K : PySem.W.Frag} {mg : Str → Option Value} {base : Heap}
def spLaw (K : PySem.W.Frag) : Sp := fun vs H Q _ => ∃ (s : Addr) (ns : List Int), vs = [.ref s] ∧ SqL K H s (ns.map V.int) ∧ ns.length ≤ 63 ∧ ∀ H', Q (.bl true) H'
theorem ok_law (T : Txt K mg) (B : Blt mg) : FnG P w K mg base 9 T.d_law.f T.d_law.fd ["_law_script"] (spLaw K) := by
  have Gs := ok_law_spring (P := P) (w := w) (base := base) T B
  have Gr := ok_law_right (P := P) (w := w) (base := base) T B
  have nd := sc_law.nd
  refine Fun.okG T.d_law.F sc_law (fun vs H Q E h => ?_) (fun cdv A outer sh H vs Q E hG hr h => ?_)
  · obtain ⟨s, ns, rfl, _⟩ := h
    rfl
  · obtain ⟨s, ns, rfl, hS, hlen, q⟩ := h
    refine ⟨_, pss_one (ps_ret (pe_callB (cr_all rfl) (by rfl) B.all (by decide +kernel) (pa_cons
      (pe_lc (own := [("_law_turn", 1)]) (g := gName 1) (tt := tYes) (te := tCallG spRight (tCons (tCall (spSpring K) [] E0 (tCons (tVar 0) (tCons (tVar 1) tNil))) tNil)) rfl nd (pi_range1 (by rfl) B.rng (pa_cons (pe_callB (call_max2 rfl) (by rfl) B.max (by decide +kernel) (pa_cons pe_int (pa_cons
          (pe_callB (call_min2 rfl) (by rfl) B.min (by decide +kernel) (pa_cons (pe_callB call_len_seq (by rfl) B.len (by decide +kernel) (pa_cons (pv 0) pa_nil)) (pa_cons pe_int pa_nil))) pa_nil))) pa_nil))
        (blkOk_by (N := ["_law_script", "_law_turn"]) (sc := defScope s_law) (by decide +kernel)) (fun _ _ _ _ _ => pg_name (i := 1) nd rfl (Or.inl rfl)) (fun _ _ _ _ _ => pts_nil)
        (fun _ _ _ _ _ => pe_callG Gr hG hr (by rfl) T.d_law_right.g T.d_law_right.F.kp T.d_law_right.b (pa_cons
          (pe_call Gs (hr.mono (by decide)) (by rfl) T.d_law_spring.g T.d_law_spring.F.kp T.d_law_spring.b .nil pass0 (pa_cons (pv 0) (pa_cons (pv 1) pa_nil))) pa_nil))) pa_nil))), ?_⟩
    refine ⟨_, rfl, s, _, rfl, .inl hS, _, _, rfl, _, _, rfl, _, rfl, ?_, ?_, fun D hD => ?_⟩
    · split <;> split <;> omega
    · split <;> split <;> omega
    · refine lc_range (lo := 0) (n := (if (if (3 : Int) < (((ns.map V.int).length : Nat) : Int) then (3 : Int) else (((ns.map V.int).length : Nat) : Int)) > 2 then (if (3 : Int) < (((ns.map V.int).length : Nat) : Int) then (3 : Int) else (((ns.map V.int).length : Nat) : Int)) else 2).toNat) (fun i H' => Same H H' ∧ H' D = some (.lst ((List.replicate i true).map V.bl)) ∧ i ≤ 1000) ⟨same_upd hD, upd_same, Nat.zero_le _⟩ ?_ ?_
      · rintro i H1 hi ⟨sm, eD, _⟩
        have hi3 : i < 3 := by
          refine Nat.lt_of_lt_of_le hi ?_
          split <;> split <;> omega
        refine ⟨rfl, _, rfl, _, rfl, s, i, ns, by rw [Int.zero_add]; rfl, sm.seq hS, fun H2 p sm2 hp sp => ⟨p, rfl, sp, fun H3 ex => ?_⟩⟩
        have sm3 : Same H1 H3 := fun b o e => ex b o (ne_of_none e hp) (sm2 b o e)
        refine ⟨_, sm3 _ _ eD, ?_, sput (sm.trans sm3) hD, ?_, by omega⟩
        · rw [List.length_map, List.length_replicate]
          exact small (by omega)
        · show upd H3 D _ D = _
          rw [upd_same, List.replicate_succ', List.map_append]
          rfl
      · rintro H1 ⟨sm, eD, _⟩
        refine ⟨D, _, rfl, .of eD, ?_⟩
        rw [all_true]
        exact q H1
end
end Sg
set_option Elab.async false
set_option linter.all false
set_option maxRecDepth 100000
set_option maxHeartbeats 4000000
/-! What the top has written, the head. -/
namespace Sg
open PySem PySem.Spec PyProof.Rows L2
section
variable {K : PySem.W.Frag} {h : Heap} {mg : Str → Option Value}
def def_mk {x : Str} {st : Stmt} {ps : List Str} {f : Addr} {oc : Value} {od an : Option Addr} {osl : Array (Option Value)} {kV doc pm cdv ct : Value} (X : K.In h) (G : h.Ns mainGlobals mg)
    (a : PySem.W.nsIn K mainGlobals x = some (some (.ref f))) (l : K.lookup f = some ⟨oc, od, .func (PySem.W.fnOf x x (defArgs st) (defBody st) (defScope st) .none kV doc pm an cdv ct), osl⟩) (c : PySem.W.codeIn K cdv x = true)
    (b : ∀ (kV doc pm : Value) (an : Option Addr) (cdv ct : Value) (us : List Value), us.length = ps.length → bindArgs (PySem.W.fnOf x x (defArgs st) (defBody st) (defScope st) .none kV doc pm an cdv ct) ⟨us, []⟩ = pure (ps.zip us)) : Def K mg x st ps :=
  have F : Fun K x x st f (PySem.W.fnOf x x (defArgs st) (defBody st) (defScope st) .none kV doc pm an cdv ct) := fun_mk l c (by simp only [PySem.W.keepIn]; rw [show K.lookup f = _ from l])
  ⟨f, _, F, F.binds b, PySem.W.mg_of X G a⟩
theorem blt_mk (X : K.In h) (G : h.Ns mainGlobals mg) {t u : Tok}
    (z1 : PySem.W.nsIn K mainGlobals "isinstance" = some none) (z2 : PySem.W.nsIn K mainGlobals "int" = some none) (z3 : PySem.W.nsIn K mainGlobals "bool" = some none) (z4 : PySem.W.nsIn K mainGlobals "tuple" = some none)
    (z5 : PySem.W.nsIn K mainGlobals "len" = some none) (z6 : PySem.W.nsIn K mainGlobals "enumerate" = some none) (z7 : PySem.W.nsIn K mainGlobals "sorted" = some none) (z8 : PySem.W.nsIn K mainGlobals "range" = some none)
    (z9 : PySem.W.nsIn K mainGlobals "abs" = some none) (z10 : PySem.W.nsIn K mainGlobals "divmod" = some none) (z11 : PySem.W.nsIn K mainGlobals "list" = some none) (z12 : PySem.W.nsIn K mainGlobals "repr" = some none)
    (z13 : PySem.W.nsIn K mainGlobals "all" = some none) (z14 : PySem.W.nsIn K mainGlobals "max" = some none) (z15 : PySem.W.nsIn K mainGlobals "min" = some none)
    (zg : PySem.W.nsIn K mainGlobals "gcd" = some (some (.builtin "math.gcd"))) (zp : PySem.W.nsIn K mainGlobals "MOST_PAIRS" = some (some (.int 400 t))) (zr : PySem.W.nsIn K mainGlobals "MOST_ROUND" = some (some (.int 60 u))) : Blt mg :=
  have n := fun {x : Str} (z : PySem.W.nsIn K mainGlobals x = some none) => PySem.W.mg_none_of X G z
  ⟨n z1, n z2, n z3, n z4, n z5, n z6, n z7, n z8, n z9, n z10, n z11, n z12, n z13, n z14, n z15, PySem.W.mg_of X G zg, ⟨_, PySem.W.mg_of X G zp⟩, ⟨_, PySem.W.mg_of X G zr⟩⟩
theorem end_mk {l : PySem.W.OpenLaw} {w : World} {fa : Addr} (hfa : mg "law" = some (.ref fa)) (T : Txt K mg) (B : Blt mg) :
    ∃ fd : FuncData, (∀ (s : Shared) (v : Value), BindsTo s fd ⟨[v], []⟩ [("_law_script", v)]) ∧ ∀ base : Heap, K.In base → base.Ns mainGlobals mg → FnG l.prog w K mg base 9 fa fd ["_law_script"] (spLaw K) := by
  have e : fa = T.d_law.f := by
    have z := hfa.symm.trans T.d_law.g
    cases z
    rfl
  subst e
  refine ⟨T.d_law.fd, fun s v => ?_, fun base _ _ => ok_law T B⟩
  obtain ⟨oc, od, kV, doc, pm, an, cdv, ct, osl, q, lk, hcd⟩ := T.d_law.F.ex
  rw [q]
  exact .of_eq rfl
end
end Sg
set_option Elab.async false
set_option linter.all false
set_option maxRecDepth 100000
open PySem PySem.W PyProof.Rows
set_option maxHeartbeats 0 in
theorem PySem.Challenge.cw_samegaps_k77_whole_turned_multiplied_rol_holds : PySem.Challenge.rw_samegaps_k77_whole_turned_multiplied_rol.Holds := by
  w_on; o_law; k_head; (case hw => w_witness2)
  k_fill
  refine Sg.walkG (l := PySem.Challenge.rw_samegaps_k77_whole_turned_multiplied_rol) (n := 63) (k := 9) (x := "_law_script") (sp := fun K => Sg.spLaw K) rfl (by decide) rfl ⟨rfl, by decide, by decide⟩ (fun w h Y => PySem.W.kIn_of Y) ?F (fun K H a ns hl hS => ⟨a, ns, rfl, hS, hl, fun _ => rfl⟩)
  case F =>
    intro w mg fa h KX G hmg
    refine' Sg.end_mk hmg ?T ?B
    case B =>
      refine' Sg.blt_mk KX G ?z1 ?z2 ?z3 ?z4 ?z5 ?z6 ?z7 ?z8 ?z9 ?z10 ?z11 ?z12 ?z13 ?z14 ?z15 ?zg ?zp ?zr
      (case z1 => k_is)
      (case z2 => k_is)
      (case z3 => k_is)
      (case z4 => k_is)
      (case z5 => k_is)
      (case z6 => k_is)
      (case z7 => k_is)
      (case z8 => k_is)
      (case z9 => k_is)
      (case z10 => k_is)
      (case z11 => k_is)
      (case z12 => k_is)
      (case z13 => k_is)
      (case z14 => k_is)
      (case z15 => k_is)
      (case zg => k_is)
      (case zp => k_is)
      (case zr => k_is)
    case T =>
      refine' Sg.Txt.mk ?d_is_whole ?d_is_whole_between ?d_is_pair ?d_wrong_in_row ?d_row_of_sums ?d_row_mirror ?d_row_product ?d_wrong_in_lot ?d_serves_round ?d_lot_of ?d_gaps_round ?d_turned_lot ?d_mirrored_lot ?d_multiplied_lot ?d_rolled_by ?d_check_between ?d_check_places_round ?d_check_lot ?d_check_round ?d_check_many_round ?d_check_row ?d_check_both ?d_check_whole ?d_few_pairs ?d_differences_round ?d_turned_round ?d_mirrored_round ?d_multiplied ?d_rolled ?d_mirrored ?d_product ?d_law_spring ?d_law_draw ?d_law_one_of ?d_law_lot ?d_law_round ?d_law_ring ?d_law_free ?d_law_row ?d_law_rolled ?d_law_times_round ?d_law_lots_right ?d_law_right ?d_law
      case d_is_whole =>
        refine' Sg.def_mk KX G ?a ?l ?c (fun _ _ _ _ _ _ us hl => match us, hl with | [_], _ => rfl)
        (case a => k_is)
        (case l => k_is)
        (case c => k_is)
      case d_is_whole_between =>
        refine' Sg.def_mk KX G ?a ?l ?c (fun _ _ _ _ _ _ us hl => match us, hl with | [_, _, _], _ => rfl)
        (case a => k_is)
        (case l => k_is)
        (case c => k_is)
      case d_is_pair =>
        refine' Sg.def_mk KX G ?a ?l ?c (fun _ _ _ _ _ _ us hl => match us, hl with | [_], _ => rfl)
        (case a => k_is)
        (case l => k_is)
        (case c => k_is)
      case d_wrong_in_row =>
        refine' Sg.def_mk KX G ?a ?l ?c (fun _ _ _ _ _ _ us hl => match us, hl with | [_], _ => rfl)
        (case a => k_is)
        (case l => k_is)
        (case c => k_is)
      case d_row_of_sums =>
        refine' Sg.def_mk KX G ?a ?l ?c (fun _ _ _ _ _ _ us hl => match us, hl with | [_], _ => rfl)
        (case a => k_is)
        (case l => k_is)
        (case c => k_is)
      case d_row_mirror =>
        refine' Sg.def_mk KX G ?a ?l ?c (fun _ _ _ _ _ _ us hl => match us, hl with | [_], _ => rfl)
        (case a => k_is)
        (case l => k_is)
        (case c => k_is)
      case d_row_product =>
        refine' Sg.def_mk KX G ?a ?l ?c (fun _ _ _ _ _ _ us hl => match us, hl with | [_, _], _ => rfl)
        (case a => k_is)
        (case l => k_is)
        (case c => k_is)
      case d_wrong_in_lot =>
        refine' Sg.def_mk KX G ?a ?l ?c (fun _ _ _ _ _ _ us hl => match us, hl with | [_, _], _ => rfl)
        (case a => k_is)
        (case l => k_is)
        (case c => k_is)
      case d_serves_round =>
        refine' Sg.def_mk KX G ?a ?l ?c (fun _ _ _ _ _ _ us hl => match us, hl with | [_, _], _ => rfl)
        (case a => k_is)
        (case l => k_is)
        (case c => k_is)
      case d_lot_of =>
        refine' Sg.def_mk KX G ?a ?l ?c (fun _ _ _ _ _ _ us hl => match us, hl with | [_, _], _ => rfl)
        (case a => k_is)
        (case l => k_is)
        (case c => k_is)
      case d_gaps_round =>
        refine' Sg.def_mk KX G ?a ?l ?c (fun _ _ _ _ _ _ us hl => match us, hl with | [_, _], _ => rfl)
        (case a => k_is)
        (case l => k_is)
        (case c => k_is)
      case d_turned_lot =>
        refine' Sg.def_mk KX G ?a ?l ?c (fun _ _ _ _ _ _ us hl => match us, hl with | [_, _, _], _ => rfl)
        (case a => k_is)
        (case l => k_is)
        (case c => k_is)
      case d_mirrored_lot =>
        refine' Sg.def_mk KX G ?a ?l ?c (fun _ _ _ _ _ _ us hl => match us, hl with | [_, _], _ => rfl)
        (case a => k_is)
        (case l => k_is)
        (case c => k_is)
      case d_multiplied_lot =>
        refine' Sg.def_mk KX G ?a ?l ?c (fun _ _ _ _ _ _ us hl => match us, hl with | [_, _, _], _ => rfl)
        (case a => k_is)
        (case l => k_is)
        (case c => k_is)
      case d_rolled_by =>
        refine' Sg.def_mk KX G ?a ?l ?c (fun _ _ _ _ _ _ us hl => match us, hl with | [_, _], _ => rfl)
        (case a => k_is)
        (case l => k_is)
        (case c => k_is)
      case d_check_between =>
        refine' Sg.def_mk KX G ?a ?l ?c (fun _ _ _ _ _ _ us hl => match us, hl with | [_, _, _], _ => rfl)
        (case a => k_is)
        (case l => k_is)
        (case c => k_is)
      case d_check_places_round =>
        refine' Sg.def_mk KX G ?a ?l ?c (fun _ _ _ _ _ _ us hl => match us, hl with | [_], _ => rfl)
        (case a => k_is)
        (case l => k_is)
        (case c => k_is)
      case d_check_lot =>
        refine' Sg.def_mk KX G ?a ?l ?c (fun _ _ _ _ _ _ us hl => match us, hl with | [_, _], _ => rfl)
        (case a => k_is)
        (case l => k_is)
        (case c => k_is)
      case d_check_round =>
        refine' Sg.def_mk KX G ?a ?l ?c (fun _ _ _ _ _ _ us hl => match us, hl with | [_, _], _ => rfl)
        (case a => k_is)
        (case l => k_is)
        (case c => k_is)
      case d_check_many_round =>
        refine' Sg.def_mk KX G ?a ?l ?c (fun _ _ _ _ _ _ us hl => match us, hl with | [_, _], _ => rfl)
        (case a => k_is)
        (case l => k_is)
        (case c => k_is)
      case d_check_row =>
        refine' Sg.def_mk KX G ?a ?l ?c (fun _ _ _ _ _ _ us hl => match us, hl with | [_], _ => rfl)
        (case a => k_is)
        (case l => k_is)
        (case c => k_is)
      case d_check_both =>
        refine' Sg.def_mk KX G ?a ?l ?c (fun _ _ _ _ _ _ us hl => match us, hl with | [_, _], _ => rfl)
        (case a => k_is)
        (case l => k_is)
        (case c => k_is)
      case d_check_whole =>
        refine' Sg.def_mk KX G ?a ?l ?c (fun _ _ _ _ _ _ us hl => match us, hl with | [_], _ => rfl)
        (case a => k_is)
        (case l => k_is)
        (case c => k_is)
      case d_few_pairs =>
        refine' Sg.def_mk KX G ?a ?l ?c (fun _ _ _ _ _ _ us hl => match us, hl with | [_], _ => rfl)
        (case a => k_is)
        (case l => k_is)
        (case c => k_is)
      case d_differences_round =>
        refine' Sg.def_mk KX G ?a ?l ?c (fun _ _ _ _ _ _ us hl => match us, hl with | [_, _], _ => rfl)
        (case a => k_is)
        (case l => k_is)
        (case c => k_is)
      case d_turned_round =>
        refine' Sg.def_mk KX G ?a ?l ?c (fun _ _ _ _ _ _ us hl => match us, hl with | [_, _, _], _ => rfl)
        (case a => k_is)
        (case l => k_is)
        (case c => k_is)
      case d_mirrored_round =>
        refine' Sg.def_mk KX G ?a ?l ?c (fun _ _ _ _ _ _ us hl => match us, hl with | [_, _], _ => rfl)
        (case a => k_is)
        (case l => k_is)
        (case c => k_is)
      case d_multiplied =>
        refine' Sg.def_mk KX G ?a ?l ?c (fun _ _ _ _ _ _ us hl => match us, hl with | [_, _, _], _ => rfl)
        (case a => k_is)
        (case l => k_is)
        (case c => k_is)
      case d_rolled =>
        refine' Sg.def_mk KX G ?a ?l ?c (fun _ _ _ _ _ _ us hl => match us, hl with | [_, _], _ => rfl)
        (case a => k_is)
        (case l => k_is)
        (case c => k_is)
      case d_mirrored =>
        refine' Sg.def_mk KX G ?a ?l ?c (fun _ _ _ _ _ _ us hl => match us, hl with | [_], _ => rfl)
        (case a => k_is)
        (case l => k_is)
        (case c => k_is)
      case d_product =>
        refine' Sg.def_mk KX G ?a ?l ?c (fun _ _ _ _ _ _ us hl => match us, hl with | [_, _], _ => rfl)
        (case a => k_is)
        (case l => k_is)
        (case c => k_is)
      case d_law_spring =>
        refine' Sg.def_mk KX G ?a ?l ?c (fun _ _ _ _ _ _ us hl => match us, hl with | [_, _], _ => rfl)
        (case a => k_is)
        (case l => k_is)
        (case c => k_is)
      case d_law_draw =>
        refine' Sg.def_mk KX G ?a ?l ?c (fun _ _ _ _ _ _ us hl => match us, hl with | [_, _], _ => rfl)
        (case a => k_is)
        (case l => k_is)
        (case c => k_is)
      case d_law_one_of =>
        refine' Sg.def_mk KX G ?a ?l ?c (fun _ _ _ _ _ _ us hl => match us, hl with | [_, _], _ => rfl)
        (case a => k_is)
        (case l => k_is)
        (case c => k_is)
      case d_law_lot =>
        refine' Sg.def_mk KX G ?a ?l ?c (fun _ _ _ _ _ _ us hl => match us, hl with | [_, _], _ => rfl)
        (case a => k_is)
        (case l => k_is)
        (case c => k_is)
      case d_law_round =>
        refine' Sg.def_mk KX G ?a ?l ?c (fun _ _ _ _ _ _ us hl => match us, hl with | [_, _], _ => rfl)
        (case a => k_is)
        (case l => k_is)
        (case c => k_is)
      case d_law_ring =>
        refine' Sg.def_mk KX G ?a ?l ?c (fun _ _ _ _ _ _ us hl => match us, hl with | [_], _ => rfl)
        (case a => k_is)
        (case l => k_is)
        (case c => k_is)
      case d_law_free =>
        refine' Sg.def_mk KX G ?a ?l ?c (fun _ _ _ _ _ _ us hl => match us, hl with | [_], _ => rfl)
        (case a => k_is)
        (case l => k_is)
        (case c => k_is)
      case d_law_row =>
        refine' Sg.def_mk KX G ?a ?l ?c (fun _ _ _ _ _ _ us hl => match us, hl with | [_], _ => rfl)
        (case a => k_is)
        (case l => k_is)
        (case c => k_is)
      case d_law_rolled =>
        refine' Sg.def_mk KX G ?a ?l ?c (fun _ _ _ _ _ _ us hl => match us, hl with | [_, _], _ => rfl)
        (case a => k_is)
        (case l => k_is)
        (case c => k_is)
      case d_law_times_round =>
        refine' Sg.def_mk KX G ?a ?l ?c (fun _ _ _ _ _ _ us hl => match us, hl with | [_, _, _], _ => rfl)
        (case a => k_is)
        (case l => k_is)
        (case c => k_is)
      case d_law_lots_right =>
        refine' Sg.def_mk KX G ?a ?l ?c (fun _ _ _ _ _ _ us hl => match us, hl with | [_, _], _ => rfl)
        (case a => k_is)
        (case l => k_is)
        (case c => k_is)
      case d_law_right =>
        refine' Sg.def_mk KX G ?a ?l ?c (fun _ _ _ _ _ _ us hl => match us, hl with | [_], _ => rfl)
        (case a => k_is)
        (case l => k_is)
        (case c => k_is)
      case d_law =>
        refine' Sg.def_mk KX G ?a ?l ?c (fun _ _ _ _ _ _ us hl => match us, hl with | [_], _ => rfl)
        (case a => k_is)
        (case l => k_is)
        (case c => k_is)
