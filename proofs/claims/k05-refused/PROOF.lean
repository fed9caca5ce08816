import PyProof.Rows.All
import Wide.All
import OpenK.AllK
import Wide.FinOn
import HandS.ForMost
import HandS.Evl
import HandS.Conv
import HandS.RevRange
import HandS.IsInst
import HandS.Wide
import HandS.Style
import HandS.SetFor
import HandS.SortInts
import HandS.More
import HandS.WordsExc
import HandS.ExcOwn
import HandS.HotCalls
import HandS.ExcIs
import HandS.CallLocal
import HandS.CallSlots
import PySem.Challenge.RW_offseat_k05_refused
/-! OfMath: rook sums, seatings and how they are counted; plain Lean, no program. -/
set_option Elab.async false
set_option maxRecDepth 100000
namespace OfM

/-! ### sequences: what stands at a power -/
abbrev Sq := Nat → Int
def sh (f : Sq) : Sq := fun k => match k with | 0 => 0 | k + 1 => f k
def mp (m : Int) (f : Sq) : Sq := fun k => f k + m * sh f k
def d0 : Sq := fun k => if k = 0 then 1 else 0
def ad (f g : Sq) : Sq := fun k => f k + g k
theorem sh_0 (f : Sq) : sh f 0 = 0 := rfl
theorem sh_s (f : Sq) (k : Nat) : sh f (k + 1) = f k := rfl
theorem mp_0 (m : Int) (f : Sq) : mp m f 0 = f 0 := by simp [mp, sh]
theorem mp_s (m : Int) (f : Sq) (k : Nat) : mp m f (k + 1) = f (k + 1) + m * f k := rfl
theorem mp_zero (f : Sq) : mp 0 f = f := by
  funext k
  simp [mp]
theorem mp_comm (a b : Int) (f : Sq) : mp a (mp b f) = mp b (mp a f) := by
  funext k
  match k with
  | 0 => simp [mp_0]
  | 1 =>
    simp only [mp_s, mp_0]
    omega
  | k + 2 =>
    simp only [mp_s]
    have e : a * (b * f k) = b * (a * f k) := by rw [← Int.mul_assoc, Int.mul_comm a b, Int.mul_assoc]
    simp only [Int.mul_add]
    omega
theorem mp_ad (m : Int) (f g : Sq) : mp m (ad f g) = ad (mp m f) (mp m g) := by
  funext k
  cases k with
  | zero => simp [mp_0, ad]
  | succ k => simp only [mp_s, ad, Int.mul_add]; omega
theorem mp_sh (m : Int) (f : Sq) : mp m (sh f) = sh (mp m f) := by
  funext k
  match k with
  | 0 => simp [mp_0, sh]
  | 1 => simp [mp_s, sh, mp_0]
  | k + 2 => simp [mp_s, sh]
theorem mp_succ (m : Int) (f : Sq) : mp (m + 1) f = ad (mp m f) (sh f) := by
  funext k
  cases k with
  | zero => simp [mp_0, ad, sh]
  | succ k => simp only [mp_s, ad, sh_s, Int.add_mul]; omega
theorem sh_ad (f g : Sq) : sh (ad f g) = ad (sh f) (sh g) := by
  funext k
  cases k <;> simp [sh, ad]

/-! ### the rook sums of some seats and guests -/
/-- how many of the guests shun a seat -/
def ct (s : Int) (g : List Int) : Int := ((g.count s : Nat) : Int)
theorem ct_nil (s : Int) : ct s [] = 0 := rfl
theorem ct_same (s : Int) (g : List Int) : ct s (s :: g) = ct s g + 1 := by simp [ct]
theorem ct_ne {s t : Int} (g : List Int) (h : t ≠ s) : ct s (t :: g) = ct s g := by simp [ct, h]
theorem ct_nn (s : Int) (g : List Int) : 0 ≤ ct s g := Int.natCast_nonneg _
theorem ct_le (s : Int) (g : List Int) : ct s g ≤ (g.length : Int) := by
  have := List.count_le_length (a := s) (l := g)
  simp only [ct]
  omega
/-- the product of (1 + m x) -/
def pr : List Int → Sq
  | [] => d0
  | m :: l => mp m (pr l)
/-- the rook sums of the seats S, the guests g -/
def rk (S g : List Int) : Sq := pr (S.map fun s => ct s g)
theorem rk_nil (g : List Int) : rk [] g = d0 := rfl
theorem rk_cons (s : Int) (S g : List Int) : rk (s :: S) g = mp (ct s g) (rk S g) := rfl
theorem rk_none (S : List Int) : rk S [] = d0 := by
  induction S with
  | nil => rfl
  | cons s S ih => rw [rk_cons, ih, ct_nil, mp_zero]
theorem rk_out {t : Int} : ∀ {S : List Int} (g : List Int), t ∉ S → rk S (t :: g) = rk S g
  | [], _, _ => rfl
  | s :: S, g, h => by
    have h1 : t ≠ s := fun e => h (e ▸ List.mem_cons_self)
    rw [rk_cons, rk_cons, ct_ne g h1, rk_out g fun q => h (List.mem_cons_of_mem _ q)]
theorem rk_take {s : Int} : ∀ {S : List Int} (g : List Int), s ∈ S → rk S g = mp (ct s g) (rk (S.erase s) g)
  | [], _, h => nomatch h
  | a :: S, g, h => by
    by_cases e : a = s
    · subst e
      rw [List.erase_cons_head, rk_cons]
    · have h' : s ∈ S := (List.mem_cons.mp h).resolve_left fun q => e q.symm
      rw [List.erase_cons_tail (by simpa using e), rk_cons, rk_cons, rk_take g h', mp_comm]
theorem rk_in {t : Int} : ∀ {S : List Int} (g : List Int), S.Nodup → t ∈ S → rk S (t :: g) = ad (rk S g) (sh (rk (S.erase t) g))
  | [], _, _, h => nomatch h
  | a :: S, g, hn, h => by
    obtain ⟨n1, n2⟩ := List.nodup_cons.mp hn
    by_cases e : a = t
    · subst e
      rw [List.erase_cons_head, rk_cons, rk_cons, rk_out g n1, ct_same, mp_succ]
    · have h' : t ∈ S := (List.mem_cons.mp h).resolve_left fun q => e q.symm
      rw [List.erase_cons_tail (by simpa using e), rk_cons, rk_cons, rk_cons, rk_in g n2 h', ct_ne g (fun q => e q.symm), mp_ad, mp_sh]
/-- beyond so many as there are guests stands nothing -/
theorem rk_end : ∀ (g S : List Int) (k : Nat), S.Nodup → g.length < k → rk S g k = 0
  | [], S, k, _, h => by
    rw [rk_none]
    simp only [d0]
    rw [if_neg (by simp at h; omega)]
  | t :: g, S, k, hn, h => by
    have h' : g.length + 1 < k := h
    by_cases ht : t ∈ S
    · rw [rk_in g hn ht]
      obtain ⟨k, rfl⟩ : ∃ j, k = j + 1 := ⟨k - 1, by omega⟩
      simp only [ad, sh_s]
      rw [rk_end g S (k + 1) hn (by omega), rk_end g _ k (hn.erase t) (by omega)]
      rfl
    · rw [rk_out g ht]
      exact rk_end g S k hn (by omega)
theorem pr_nn : ∀ {l : List Int}, (∀ m ∈ l, 0 ≤ m) → ∀ k, 0 ≤ pr l k
  | [], _, k => by
    simp only [pr, d0]
    split <;> omega
  | m :: l, h, k => by
    have ih := pr_nn (l := l) fun x hx => h x (List.mem_cons_of_mem _ hx)
    have hm := h m List.mem_cons_self
    cases k with
    | zero => simp only [pr, mp_0]; exact ih 0
    | succ k =>
      simp only [pr, mp_s]
      have := Int.mul_nonneg hm (ih k)
      have := ih (k + 1)
      omega
theorem rk_nn (S g : List Int) (k : Nat) : 0 ≤ rk S g k := pr_nn (fun m hm => by
  obtain ⟨s, _, rfl⟩ := List.mem_map.mp hm
  exact ct_nn s g) k
/-- one seat taken away, each in turn -/
def sums (f : Int → Int) (S : List Int) : Int := (S.map f).sum
theorem sums_nil (f : Int → Int) : sums f [] = 0 := rfl
theorem sums_cons (f : Int → Int) (s : Int) (S : List Int) : sums f (s :: S) = f s + sums f S := by simp [sums]
theorem sums_congr {f g : Int → Int} {S : List Int} (h : ∀ s ∈ S, f s = g s) : sums f S = sums g S := by
  unfold sums
  rw [List.map_congr_left h]
theorem sums_add (f g : Int → Int) (S : List Int) : sums (fun s => f s + g s) S = sums f S + sums g S := by
  induction S with
  | nil => rfl
  | cons s S ih => simp only [sums_cons, ih]; omega
theorem sums_mul (a : Int) (f : Int → Int) (S : List Int) : sums (fun s => a * f s) S = a * sums f S := by
  induction S with
  | nil => simp [sums_nil]
  | cons s S ih => simp only [sums_cons, ih, Int.mul_add]
theorem sums_zero (S : List Int) : sums (fun _ => 0) S = 0 := by
  induction S with
  | nil => rfl
  | cons s S ih => simp only [sums_cons, ih]; rfl
theorem sums_nn {f : Int → Int} {S : List Int} (h : ∀ s ∈ S, 0 ≤ f s) : 0 ≤ sums f S := by
  induction S with
  | nil => exact Int.le_refl 0
  | cons s S ih =>
    rw [sums_cons]
    have := h s List.mem_cons_self
    have := ih fun x hx => h x (List.mem_cons_of_mem _ hx)
    omega
theorem sums_ge {f : Int → Int} {S : List Int} {s : Int} (h : ∀ s ∈ S, 0 ≤ f s) (hs : s ∈ S) : f s ≤ sums f S := by
  induction S with
  | nil => exact nomatch hs
  | cons a S ih =>
    rw [sums_cons]
    have h1 := h a List.mem_cons_self
    have h2 : 0 ≤ sums f S := sums_nn fun x hx => h x (List.mem_cons_of_mem _ hx)
    rcases List.mem_cons.mp hs with e | hs
    · subst e; omega
    · have := ih (fun x hx => h x (List.mem_cons_of_mem _ hx)) hs
      omega
/-- the seats but one, of those that are equal to t nothing -/
theorem sums_if {t : Int} (v : Int) : ∀ {S : List Int}, S.Nodup → sums (fun s => if s = t then v else 0) S = if t ∈ S then v else 0
  | [], _ => rfl
  | a :: S, hn => by
    obtain ⟨n1, n2⟩ := List.nodup_cons.mp hn
    rw [sums_cons, sums_if v n2]
    by_cases e : a = t
    · subst e
      rw [if_pos rfl, if_neg n1, if_pos List.mem_cons_self]
      omega
    · rw [if_neg e]
      by_cases ht : t ∈ S
      · rw [if_pos ht, if_pos (List.mem_cons_of_mem _ ht)]; omega
      · rw [if_neg ht, if_neg fun q => ht ((List.mem_cons.mp q).resolve_left fun z => e z.symm)]; omega
/-- LEMMA A -/
theorem rk_each (g : List Int) : ∀ {S : List Int} (k : Nat), S.Nodup → sums (fun s => rk (S.erase s) g k) S = ((S.length : Int) - k) * rk S g k
  | [], k, _ => by
    rw [sums_nil, rk_nil]
    simp only [d0, List.length_nil]
    split
    · rename_i h; subst h; rfl
    · simp
  | a :: S, k, hn => by
    obtain ⟨n1, n2⟩ := List.nodup_cons.mp hn
    have e1 : sums (fun s => rk ((a :: S).erase s) g k) (a :: S) = rk S g k + sums (fun s => mp (ct a g) (rk (S.erase s) g) k) S := by
      rw [sums_cons, List.erase_cons_head]
      congr 1
      refine sums_congr fun s hs => ?_
      have ne : a ≠ s := fun q => n1 (q ▸ hs)
      rw [List.erase_cons_tail (by simpa using ne), rk_cons]
    rw [e1, rk_cons]
    cases k with
    | zero =>
      have e2 : sums (fun s => mp (ct a g) (rk (S.erase s) g) 0) S = sums (fun s => rk (S.erase s) g 0) S := sums_congr fun s _ => mp_0 _ _
      rw [e2, rk_each g 0 n2, mp_0, List.length_cons]
      have c1 : (((S.length + 1 : Nat) : Int) - ((0 : Nat) : Int)) = ((S.length : Int) - ((0 : Nat) : Int)) + 1 := by omega
      rw [c1, Int.add_mul, Int.one_mul]
      omega
    | succ k =>
      have e2 : sums (fun s => mp (ct a g) (rk (S.erase s) g) (k + 1)) S = sums (fun s => rk (S.erase s) g (k + 1)) S + ct a g * sums (fun s => rk (S.erase s) g k) S := by
        rw [← sums_mul, ← sums_add]
        exact sums_congr fun s _ => mp_s _ _ _
      rw [e2, rk_each g (k + 1) n2, rk_each g k n2, mp_s, List.length_cons]
      have c1 : ((S.length + 1 : Nat) : Int) = (S.length : Int) + 1 := by omega
      have c2 : ((k + 1 : Nat) : Int) = (k : Int) + 1 := by omega
      rw [c1, c2]
      have c3 : ct a g * (((S.length : Int) - k) * rk S g k) = ((S.length : Int) - k) * (ct a g * rk S g k) := by
        rw [← Int.mul_assoc, Int.mul_comm (ct a g), Int.mul_assoc]
      rw [c3, Int.mul_add]
      have c4 : ((S.length : Int) + 1 - (k + 1)) = (S.length : Int) - k := by omega
      rw [c4]
      have c5 : ((S.length : Int) - (k + 1)) * rk S g (k + 1) = ((S.length : Int) - k) * rk S g (k + 1) - rk S g (k + 1) := by
        have : ((S.length : Int) - (k + 1)) = ((S.length : Int) - k) - 1 := by omega
        rw [this, Int.sub_mul, Int.one_mul]
      rw [c5]
      omega

/-! ### orders -/
def fac : Nat → Int
  | 0 => 1
  | n + 1 => fac n * ((n : Int) + 1)
theorem fac_pos : ∀ n, 0 < fac n
  | 0 => by decide
  | n + 1 => by
    have h := fac_pos n
    show 0 < fac n * ((n : Int) + 1)
    exact Int.mul_pos h (by omega)

/-! ### seatings by how many sit where they shun -/
/-- N S g k: in how many ways the guests g take the seats S (as many), so that k sit where they shun -/
def N : List Int → List Int → Sq
  | _, [] => d0
  | S, t :: g => fun k => sums (fun s => if s = t then sh (N (S.erase s) g) k else N (S.erase s) g k) S
/-- M S g k: the picks: over all seatings, in how many ways k of those who sit where they shun are picked -/
def M : List Int → List Int → Sq
  | _, [] => d0
  | S, t :: g => fun k => sums (fun s => if s = t then ad (M (S.erase s) g) (sh (M (S.erase s) g)) k else M (S.erase s) g k) S
theorem N_nn : ∀ (g S : List Int) (k : Nat), 0 ≤ N S g k
  | [], S, k => by
    simp only [N, d0]
    split <;> omega
  | t :: g, S, k => by
    simp only [N]
    refine sums_nn fun s _ => ?_
    split
    · cases k with
      | zero => exact Int.le_refl 0
      | succ k => exact N_nn g _ k
    · exact N_nn g _ k
theorem N_end : ∀ (g S : List Int) (k : Nat), g.length < k → N S g k = 0
  | [], S, k, h => by
    simp only [N, d0]
    rw [if_neg (by simp at h; omega)]
  | t :: g, S, k, h => by
    have h' : g.length + 1 < k := h
    obtain ⟨k, rfl⟩ : ∃ j, k = j + 1 := ⟨k - 1, by omega⟩
    simp only [N]
    rw [sums_congr (g := fun _ => 0) fun s _ => ?_, sums_zero]
    rw [sh_s, N_end g _ k (by omega), N_end g _ (k + 1) (by omega)]
    split <;> rfl
theorem M_end : ∀ (g S : List Int) (k : Nat), g.length < k → M S g k = 0
  | [], S, k, h => by
    simp only [M, d0]
    rw [if_neg (by simp at h; omega)]
  | t :: g, S, k, h => by
    have h' : g.length + 1 < k := h
    obtain ⟨k, rfl⟩ : ∃ j, k = j + 1 := ⟨k - 1, by omega⟩
    simp only [M]
    rw [sums_congr (g := fun _ => 0) fun s _ => ?_, sums_zero]
    simp only [ad, sh_s]
    rw [M_end g _ k (by omega), M_end g _ (k + 1) (by omega)]
    split <;> rfl
/-- THE PICKS ARE THE ROOK SUMS -/
theorem M_rk : ∀ (g S : List Int) (k : Nat), S.Nodup → S.length = g.length → k ≤ g.length → M S g k = rk S g k * fac (g.length - k)
  | [], S, k, _, hl, hk => by
    have e : k = 0 := by simpa using hk
    have e' : S = [] := List.eq_nil_of_length_eq_zero (by simpa using hl)
    subst e; subst e'
    rfl
  | t :: g, S, k, hn, hl, hk => by
    have hl' : S.length = g.length + 1 := hl
    have hk' : k ≤ g.length + 1 := hk
    have le : ∀ s ∈ S, (S.erase s).length = g.length := fun s hs => by rw [List.length_erase_of_mem hs]; omega
    -- the sum over all seats, and that of the shunned one
    have e1 : M S (t :: g) k = sums (fun s => M (S.erase s) g k) S + (if t ∈ S then sh (M (S.erase t) g) k else 0) := by
      rw [← sums_if (t := t) (sh (M (S.erase t) g) k) hn, ← sums_add]
      refine sums_congr fun s _ => ?_
      by_cases e : s = t
      · subst e; simp [ad]
      · simp [e]
    have e2 : (if t ∈ S then sh (M (S.erase t) g) k else 0) = (if t ∈ S then sh (rk (S.erase t) g) k else 0) * fac (g.length + 1 - k) := by
      by_cases ht : t ∈ S
      · rw [if_pos ht, if_pos ht]
        cases k with
        | zero => simp [sh]
        | succ k =>
          rw [sh_s, sh_s, M_rk g _ k (hn.erase t) (le t ht) (by omega)]
          congr 2
          omega
      · rw [if_neg ht, if_neg ht]; simp
    have e3 : sums (fun s => M (S.erase s) g k) S = rk S g k * fac (g.length + 1 - k) := by
      by_cases hk2 : k ≤ g.length
      · have : sums (fun s => M (S.erase s) g k) S = sums (fun s => fac (g.length - k) * rk (S.erase s) g k) S :=
          sums_congr fun s hs => by rw [M_rk g _ k (hn.erase s) (le s hs) hk2, Int.mul_comm]
        rw [this, sums_mul, rk_each g k hn, hl']
        have e : g.length + 1 - k = (g.length - k) + 1 := by omega
        rw [e]
        show _ = rk S g k * (fac (g.length - k) * (((g.length - k : Nat) : Int) + 1))
        have c : ((g.length + 1 : Nat) : Int) - k = ((g.length - k : Nat) : Int) + 1 := by omega
        rw [c, Int.mul_comm (rk S g k), ← Int.mul_assoc, Int.mul_assoc]
      · have : sums (fun s => M (S.erase s) g k) S = sums (fun _ => 0) S := sums_congr fun s _ => M_end g _ k (by omega)
        rw [this, sums_zero, rk_end g S k hn (by omega), Int.zero_mul]
    rw [e1, e2, e3, ← Int.add_mul]
    show _ = rk S (t :: g) k * fac (g.length + 1 - k)
    congr 1
    by_cases ht : t ∈ S
    · rw [if_pos ht, rk_in g hn ht]; rfl
    · rw [if_neg ht, rk_out g ht, Int.add_zero]

/-! ### from picks to exact counts -/
def Rel : Nat → Sq → Sq → Prop
  | 0, M, N => M 0 = N 0
  | n + 1, M, N => ∃ M' : Sq, (∀ k, n < k → M' k = 0) ∧ Rel n M' (fun k => N (k + 1)) ∧ M 0 = N 0 + M' 0 ∧ ∀ k, k ≤ n → M (k + 1) = M' (k + 1) + M' k
theorem rel_ad : ∀ {n : Nat} {M1 N1 M2 N2 : Sq}, Rel n M1 N1 → Rel n M2 N2 → Rel n (ad M1 M2) (ad N1 N2)
  | 0, M1, N1, M2, N2, h1, h2 => by
    have h1 : M1 0 = N1 0 := h1
    have h2 : M2 0 = N2 0 := h2
    show M1 0 + M2 0 = N1 0 + N2 0
    rw [h1, h2]
  | n + 1, M1, N1, M2, N2, ⟨A, a1, a2, a3, a4⟩, ⟨B, b1, b2, b3, b4⟩ => by
    refine ⟨ad A B, fun k hk => ?_, rel_ad a2 b2, ?_, fun k hk => ?_⟩
    · simp only [ad, a1 k hk, b1 k hk]; rfl
    · simp only [ad, a3, b3]; omega
    · simp only [ad, a4 k hk, b4 k hk]; omega
theorem rel_zero : ∀ n : Nat, Rel n (fun _ => 0) (fun _ => 0)
  | 0 => rfl
  | n + 1 => ⟨fun _ => 0, fun _ _ => rfl, rel_zero n, rfl, fun _ _ => rfl⟩
theorem rel_pad : ∀ {n : Nat} {M N : Sq}, Rel n M N → M (n + 1) = 0 → N (n + 1) = 0 → Rel (n + 1) M N
  | 0, M, N, h, hm, hn => by
    refine ⟨fun _ => 0, fun _ _ => rfl, ?_, ?_, fun k hk => ?_⟩
    · show (0 : Int) = N 1
      exact hn.symm
    · have h : M 0 = N 0 := h
      show M 0 = N 0 + 0
      omega
    · have e : k = 0 := Nat.le_zero.mp hk
      subst e
      show M 1 = 0 + 0
      rw [hm]
      rfl
  | n + 1, M, N, ⟨A, a1, a2, a3, a4⟩, hm, hn => by
    refine ⟨A, fun k hk => a1 k (by omega), rel_pad a2 (a1 _ (by omega)) hn, a3, fun k hk => ?_⟩
    by_cases e : k = n + 1
    · subst e
      rw [hm, a1 _ (by omega), a1 _ (by omega)]; rfl
    · exact a4 k (by omega)
theorem rel_sh {n : Nat} {M N : Sq} (h : Rel n M N) (hm : ∀ k, n < k → M k = 0) : Rel (n + 1) (ad M (sh M)) (sh N) :=
  ⟨M, hm, h, by simp [ad, sh], fun k _ => rfl⟩
theorem rel_congr {n : Nat} {M N M' N' : Sq} (h : Rel n M N) (e1 : ∀ k, M' k = M k) (e2 : ∀ k, N' k = N k) : Rel n M' N' := by
  have a : M' = M := funext e1
  have b : N' = N := funext e2
  rw [a, b]
  exact h
theorem rel_sums {n : Nat} {F G : Int → Sq} : ∀ {S : List Int}, (∀ s ∈ S, Rel n (F s) (G s)) → Rel n (fun k => sums (fun s => F s k) S) (fun k => sums (fun s => G s k) S)
  | [], _ => rel_zero n
  | s :: S, h => by
    refine rel_congr (rel_ad (h s List.mem_cons_self) (rel_sums (S := S) fun x hx => h x (List.mem_cons_of_mem _ hx))) (fun k => ?_) fun k => ?_
    · rw [sums_cons]; rfl
    · rw [sums_cons]; rfl
theorem rel_MN : ∀ (g S : List Int), Rel g.length (M S g) (N S g)
  | [], S => rfl
  | t :: g, S => by
    show Rel (g.length + 1) _ _
    have h : ∀ s ∈ S, Rel (g.length + 1) (fun k => if s = t then ad (M (S.erase s) g) (sh (M (S.erase s) g)) k else M (S.erase s) g k) (fun k => if s = t then sh (N (S.erase s) g) k else N (S.erase s) g k) := fun s _ => by
      by_cases e : s = t
      · refine rel_congr (rel_sh (rel_MN g (S.erase s)) fun k hk => M_end g _ k hk) (fun k => ?_) fun k => ?_
        · rw [if_pos e]
        · rw [if_pos e]
      · refine rel_congr (rel_pad (rel_MN g (S.erase s)) (M_end g _ _ (by omega)) (N_end g _ _ (by omega))) (fun k => ?_) fun k => ?_
        · rw [if_neg e]
        · rw [if_neg e]
    exact rel_sums h

/-- the alternating sum of so many -/
def asum (f : Sq) : Nat → Int
  | 0 => 0
  | n + 1 => asum f n + (if n % 2 = 0 then f n else - f n)
theorem rel_asum : ∀ {n : Nat} {M N : Sq}, Rel n M N → asum M (n + 1) = N 0
  | 0, M, N, h => by
    have h : M 0 = N 0 := h
    simp [asum, h]
  | n + 1, M, N, ⟨A, a1, _, a3, a4⟩ => by
    have key : ∀ j, j ≤ n + 1 → asum M (j + 1) = N 0 + (if j % 2 = 0 then A j else - A j) := by
      intro j
      induction j with
      | zero => intro _; simp [asum, a3]
      | succ j ih =>
        intro hj
        have e : asum M (j + 1 + 1) = asum M (j + 1) + (if (j + 1) % 2 = 0 then M (j + 1) else - M (j + 1)) := rfl
        rw [e, ih (by omega), a4 j (by omega)]
        by_cases h : j % 2 = 0
        · rw [if_pos h, if_neg (by omega), if_neg (by omega)]; omega
        · rw [if_neg h, if_pos (by omega), if_pos (by omega)]; omega
    rw [key (n + 1) (Nat.le_refl _), a1 (n + 1) (by omega)]
    split <;> omega
theorem asum_congr {f g : Sq} : ∀ {n : Nat}, (∀ k, k < n → f k = g k) → asum f n = asum g n
  | 0, _ => rfl
  | n + 1, h => by
    simp only [asum]
    rw [asum_congr (n := n) fun k hk => h k (by omega), h n (by omega)]
theorem asum_cut {f : Sq} {a : Nat} : ∀ {n : Nat}, a ≤ n → (∀ k, a ≤ k → k < n → f k = 0) → asum f n = asum f a
  | 0, h, _ => by
    have e : a = 0 := by omega
    subst e; rfl
  | n + 1, h, hz => by
    by_cases e : a = n + 1
    · subst e; rfl
    · simp only [asum]
      rw [hz n (by omega) (by omega), asum_cut (n := n) (by omega) fun k h1 h2 => hz k h1 (by omega)]
      split <;> omega
theorem asum_pick {S g : List Int} (hn : S.Nodup) (hl : S.length = g.length) : asum (fun k => rk S g k * fac (g.length - k)) (g.length + 1) = N S g 0 := by
  rw [← rel_asum (rel_MN g S)]
  exact asum_congr fun k hk => (M_rk g S k hn hl (by omega)).symm

/-! ### lists of what stands at the powers -/
def lst (f : Sq) (j : Nat) : Nat → List Int
  | 0 => []
  | n + 1 => f j :: lst f (j + 1) n
theorem lst_len (f : Sq) : ∀ (n j : Nat), (lst f j n).length = n
  | 0, _ => rfl
  | n + 1, j => by simp [lst, lst_len f n (j + 1)]
theorem lst_get (f : Sq) : ∀ (n j i : Nat), i < n → (lst f j n)[i]? = some (f (j + i))
  | 0, _, _, h => absurd h (Nat.not_lt_zero _)
  | n + 1, j, 0, _ => rfl
  | n + 1, j, i + 1, h => by
    show (lst f (j + 1) n)[i]? = _
    rw [lst_get f n (j + 1) i (by omega)]
    congr 2
    omega
theorem lst_congr {f g : Sq} : ∀ {n j : Nat}, (∀ k, j ≤ k → k < j + n → f k = g k) → lst f j n = lst g j n
  | 0, _, _ => rfl
  | n + 1, j, h => by
    simp only [lst]
    rw [h j (by omega) (by omega), lst_congr (n := n) (j := j + 1) fun k h1 h2 => h k (by omega) (by omega)]
theorem lst_shift (f : Sq) : ∀ (n j : Nat), lst f (j + 1) n = lst (fun k => f (k + 1)) j n
  | 0, _ => rfl
  | n + 1, j => by
    simp only [lst]
    rw [lst_shift f n (j + 1)]
def alt : List Int → List Int
  | [] => []
  | x :: l => (x - (alt l).headD 0) :: alt l
theorem alt_len : ∀ l : List Int, (alt l).length = l.length
  | [] => rfl
  | x :: l => by simp [alt, alt_len l]
def trF : Nat → List Int → List Int
  | 0, l => l
  | n + 1, l => match alt l with
    | [] => []
    | r :: rest => r :: trF n rest
theorem tr_rel : ∀ {n : Nat} {M N : Sq}, Rel n M N → trF n (lst M 0 (n + 1)) = lst N 0 (n + 1)
  | 0, M, N, h => by
    have h : M 0 = N 0 := h
    simp [trF, lst, h]
  | n + 1, M, N, ⟨A, a1, a2, a3, a4⟩ => by
    have key : ∀ c j, j + c = n + 1 → alt (lst M (j + 1) c) = lst A j c := by
      intro c
      induction c with
      | zero => intro j _; rfl
      | succ c ih =>
        intro j hj
        show (M (j + 1) - (alt (lst M (j + 1 + 1) c)).headD 0) :: alt (lst M (j + 1 + 1) c) = A j :: lst A (j + 1) c
        rw [ih (j + 1) (by omega)]
        have hh : (lst A (j + 1) c).headD 0 = A (j + 1) := by
          cases c with
          | zero => exact (a1 (j + 1) (by omega)).symm
          | succ c => rfl
        rw [hh, a4 j (by omega)]
        congr 1
        omega
    have e : alt (lst M 0 (n + 1 + 1)) = N 0 :: lst A 0 (n + 1) := by
      show (M 0 - (alt (lst M (0 + 1) (n + 1))).headD 0) :: alt (lst M (0 + 1) (n + 1)) = _
      rw [key (n + 1) 0 (by omega)]
      show (M 0 - A 0) :: lst A 0 (n + 1) = _
      rw [a3]
      congr 1
      omega
    simp only [trF]
    rw [e]
    show N 0 :: trF n (lst A 0 (n + 1)) = N 0 :: lst N (0 + 1) (n + 1)
    rw [tr_rel a2, lst_shift]
theorem trF_len : ∀ (n : Nat) (l : List Int), (trF n l).length = l.length
  | 0, l => rfl
  | n + 1, l => by
    have h := alt_len l
    simp only [trF]
    cases e : alt l with
    | nil => rw [e] at h; simpa using h
    | cons r rest =>
      rw [e] at h
      show (r :: trF n rest).length = _
      rw [List.length_cons, trF_len n rest]
      simpa using h
/-- one pass more over a list of one changes nothing -/
theorem trF_more : ∀ (n : Nat) (l : List Int), l.length ≤ n + 1 → trF (n + 1) l = trF n l
  | 0, [], _ => rfl
  | 0, [x], _ => by simp [trF, alt]
  | 0, x :: y :: l, h => by simp at h
  | n + 1, l, h => by
    have hl := alt_len l
    show (match alt l with | [] => [] | r :: rest => r :: trF (n + 1) rest) = (match alt l with | [] => [] | r :: rest => r :: trF n rest)
    cases e : alt l with
    | nil => rfl
    | cons r rest =>
      show r :: trF (n + 1) rest = r :: trF n rest
      rw [trF_more n rest (by rw [e] at hl; simp at hl; omega)]
theorem rel_sum : ∀ {n : Nat} {M N : Sq}, Rel n M N → (lst N 0 (n + 1)).sum = M 0
  | 0, M, N, h => by
    have h : M 0 = N 0 := h
    simp [lst, h]
  | n + 1, M, N, ⟨A, a1, a2, a3, a4⟩ => by
    show (N 0 :: lst N (0 + 1) (n + 1)).sum = M 0
    rw [List.sum_cons, lst_shift, rel_sum a2, a3]
/-- the rook sums times the orders of the others, as a list: l of the law -/
def lay (S g : List Int) : List Int := lst (fun k => rk S g k * fac (g.length - k)) 0 (g.length + 1)
/-- THE COUNTS -/
def cs (S g : List Int) : List Int := lst (N S g) 0 (g.length + 1)
theorem tr_lay {S g : List Int} (hn : S.Nodup) (hl : S.length = g.length) : trF g.length (lay S g) = cs S g := by
  unfold lay cs
  rw [← tr_rel (rel_MN g S)]
  congr 1
  exact lst_congr fun k _ hk => (M_rk g S k hn hl (by omega)).symm
theorem rk_0 : ∀ (S g : List Int), rk S g 0 = 1
  | [], g => rfl
  | s :: S, g => by rw [rk_cons, mp_0, rk_0 S g]
theorem cs_sum {S g : List Int} (hn : S.Nodup) (hl : S.length = g.length) : (cs S g).sum = fac g.length := by
  unfold cs
  rw [rel_sum (rel_MN g S), M_rk g S 0 hn hl (Nat.zero_le _), rk_0, Int.one_mul, Nat.sub_zero]
theorem cs_nn {S g : List Int} : ∀ x ∈ cs S g, 0 ≤ x := fun x hx => by
  obtain ⟨i, hi, e⟩ := List.getElem_of_mem hx
  have hl : (cs S g).length = g.length + 1 := lst_len _ _ _
  have := lst_get (N S g) (g.length + 1) 0 i (by rw [← hl]; exact hi)
  have q : (cs S g)[i]? = some x := by rw [← e]; exact List.getElem?_eq_getElem hi
  unfold cs at q
  rw [this] at q
  cases q
  exact N_nn _ _ _

/-! ### all sitting off -/
def cnt (S g : List Int) : Int := N S g 0
theorem cnt_nil (S : List Int) : cnt S [] = 1 := rfl
theorem cnt_cons (S : List Int) (t : Int) (g : List Int) : cnt S (t :: g) = sums (fun s => if s = t then 0 else cnt (S.erase s) g) S := by
  unfold cnt
  simp only [N]
  exact sums_congr fun s _ => by
    by_cases e : s = t
    · rw [if_pos e, if_pos e]; rfl
    · rw [if_neg e, if_neg e]
theorem cnt_nn (S g : List Int) : 0 ≤ cnt S g := N_nn g S 0
/-- a seating of the seats S by the guests g, all off -/
def Off : List Int → List Int → List Int → Prop
  | S, [], p => S = [] ∧ p = []
  | S, t :: g, p => ∃ s p', p = s :: p' ∧ s ∈ S ∧ s ≠ t ∧ Off (S.erase s) g p'
theorem Off.pos : ∀ {g S p : List Int}, Off S g p → 0 < cnt S g
  | [], S, p, _ => by rw [cnt_nil]; decide
  | t :: g, S, p, ⟨s, p', _, hs, hst, h⟩ => by
    rw [cnt_cons]
    have := Off.pos h
    have q : (if s = t then 0 else cnt (S.erase s) g) ≤ sums (fun s => if s = t then 0 else cnt (S.erase s) g) S :=
      sums_ge (f := fun s => if s = t then 0 else cnt (S.erase s) g) (fun x _ => by
        show 0 ≤ if x = t then 0 else cnt (S.erase x) g
        split
        · exact Int.le_refl 0
        · exact cnt_nn _ _) hs
    rw [if_neg hst] at q
    omega
theorem cnt_barred {t : Int} : ∀ {g S : List Int}, (∀ x ∈ g, x = t) → t ∈ S → S.Nodup → S.length = g.length → cnt S g = 0
  | [], S, _, h, _, hl => by
    have : S = [] := List.eq_nil_of_length_eq_zero hl
    subst this
    exact nomatch h
  | x :: g, S, hg, ht, hn, hl => by
    have ex := hg x List.mem_cons_self
    subst ex
    rw [cnt_cons, sums_congr (g := fun _ => 0) fun s hs => ?_, sums_zero]
    by_cases e : s = x
    · rw [if_pos e]
    · rw [if_neg e]
      refine cnt_barred (t := x) (fun y hy => hg y (List.mem_cons_of_mem _ hy)) ?_ (hn.erase s) ?_
      · exact (List.mem_erase_of_ne (fun q => e q.symm)).mpr ht
      · rw [List.length_erase_of_mem hs]
        have hl' : S.length = g.length + 1 := hl
        omega

/-! ### a seating by its number, and back -/
def pick : List (Int × Int) → Int → Int × Int
  | [], n => (0, n)
  | (s, m) :: l, n => if m ≤ n then pick l (n - m) else (s, n)
/-- how many stand ahead of a seat -/
def ahead : List (Int × Int) → Int → Int
  | [], _ => 0
  | (x, m) :: l, s => (if x < s then m else 0) + ahead l s
def tot : List (Int × Int) → Int
  | [] => 0
  | (_, m) :: l => m + tot l
def Up : List (Int × Int) → Prop
  | [] => True
  | (s, _) :: l => (∀ q ∈ l, s < q.1) ∧ Up l
theorem ahead_low : ∀ {l : List (Int × Int)} {s : Int}, (∀ q ∈ l, s < q.1) → ahead l s = 0
  | [], _, _ => rfl
  | (x, m) :: l, s, h => by
    have h1 : s < x := h (x, m) List.mem_cons_self
    simp only [ahead]
    rw [if_neg (by omega), ahead_low fun q hq => h q (List.mem_cons_of_mem _ hq)]
    rfl
theorem pick_of : ∀ {l : List (Int × Int)} {n : Int}, Up l → (∀ q ∈ l, 0 ≤ q.2) → 0 ≤ n → n < tot l →
    ∃ m, ((pick l n).1, m) ∈ l ∧ 0 ≤ (pick l n).2 ∧ (pick l n).2 < m ∧ ahead l (pick l n).1 + (pick l n).2 = n
  | [], n, _, _, h0, h1 => by
    have : n < 0 := h1
    omega
  | (s, m) :: l, n, ⟨u1, u2⟩, hp, h0, h1 => by
    have h1 : n < m + tot l := h1
    by_cases c : m ≤ n
    · have e : pick ((s, m) :: l) n = pick l (n - m) := by simp only [pick]; rw [if_pos c]
      rw [e]
      obtain ⟨k, hk, a, b, d⟩ := pick_of (n := n - m) u2 (fun q hq => hp q (List.mem_cons_of_mem _ hq)) (by omega) (by omega)
      refine ⟨k, List.mem_cons_of_mem _ hk, a, b, ?_⟩
      have lt : s < (pick l (n - m)).1 := u1 ((pick l (n - m)).1, k) hk
      simp only [ahead]
      rw [if_pos lt]
      omega
    · have e : pick ((s, m) :: l) n = (s, n) := by simp only [pick]; rw [if_neg c]
      rw [e]
      refine ⟨m, List.mem_cons_self, h0, by show n < m; omega, ?_⟩
      show ahead ((s, m) :: l) s + n = n
      simp only [ahead]
      rw [if_neg (by omega), ahead_low u1]
      omega
theorem pick_back : ∀ {l : List (Int × Int)} {s m r : Int}, Up l → (∀ q ∈ l, 0 ≤ q.2) → (s, m) ∈ l → 0 ≤ r → r < m → pick l (ahead l s + r) = (s, r) ∧ 0 ≤ ahead l s ∧ ahead l s + r < tot l
  | [], _, _, _, _, _, h, _, _ => nomatch h
  | (x, k) :: l, s, m, r, ⟨u1, u2⟩, hp, h, h0, h1 => by
    have hk : 0 ≤ k := hp (x, k) List.mem_cons_self
    have tnn : ∀ {l : List (Int × Int)}, (∀ q ∈ l, 0 ≤ q.2) → 0 ≤ tot l := by
      intro l
      induction l with
      | nil => intro _; exact Int.le_refl 0
      | cons q l ih =>
        intro hq
        have a := hq q List.mem_cons_self
        have b := ih fun z hz => hq z (List.mem_cons_of_mem _ hz)
        show 0 ≤ q.2 + tot l
        omega
    by_cases e : (s, m) = (x, k)
    · obtain ⟨e1, e2⟩ := Prod.mk.inj e
      subst e1
      subst e2
      have z : ahead ((s, m) :: l) s = 0 := by
        simp only [ahead]
        rw [if_neg (by omega), ahead_low u1]
        rfl
      rw [z]
      have t0 := tnn fun q hq => hp q (List.mem_cons_of_mem _ hq)
      refine ⟨?_, Int.le_refl 0, ?_⟩
      · simp only [pick]
        rw [if_neg (by omega), Int.zero_add]
      · show 0 + r < m + tot l
        omega
    · have h' : (s, m) ∈ l := (List.mem_cons.mp h).resolve_left e
      have lt : x < s := u1 _ h'
      obtain ⟨a, b, c⟩ := pick_back u2 (fun q hq => hp q (List.mem_cons_of_mem _ hq)) h' h0 h1
      have z : ahead ((x, k) :: l) s = k + ahead l s := by
        simp only [ahead]
        rw [if_pos lt]
      rw [z]
      refine ⟨?_, by omega, ?_⟩
      · simp only [pick]
        rw [if_pos (by omega)]
        have e2 : k + ahead l s + r - k = ahead l s + r := by omega
        rw [e2, a]
      · show k + ahead l s + r < k + tot l
        omega
/-- the seats that a guest may take, with how many ways there are then -/
def chs (S : List Int) (t : Int) (g : List Int) : List (Int × Int) := (S.filter fun s => decide (s ≠ t)).map fun s => (s, cnt (S.erase s) g)
def seatF : List Int → List Int → Int → List Int
  | _, [], _ => []
  | S, t :: g, n => (pick (chs S t g) n).1 :: seatF (S.erase (pick (chs S t g) n).1) g (pick (chs S t g) n).2
def numF : List Int → List Int → List Int → Int
  | S, t :: g, s :: p => ahead (chs S t g) s + numF (S.erase s) g p
  | _, _, _ => 0
def Asc : List Int → Prop
  | [] => True
  | s :: l => (∀ q ∈ l, s < q) ∧ Asc l
theorem Asc.nodup : ∀ {S : List Int}, Asc S → S.Nodup
  | [], _ => List.nodup_nil
  | s :: l, ⟨a, b⟩ => List.nodup_cons.mpr ⟨fun h => absurd (a s h) (Int.lt_irrefl s), Asc.nodup b⟩
theorem Asc.erase : ∀ {S : List Int} (s : Int), Asc S → Asc (S.erase s)
  | [], _, _ => trivial
  | x :: l, s, ⟨a, b⟩ => by
    by_cases e : x = s
    · subst e; rw [List.erase_cons_head]; exact b
    · rw [List.erase_cons_tail (by simpa using e)]
      exact ⟨fun q hq => a q (List.mem_of_mem_erase hq), Asc.erase s b⟩
theorem chs_nn {S : List Int} {t : Int} {g : List Int} : ∀ q ∈ chs S t g, 0 ≤ q.2 := fun q hq => by
  obtain ⟨s, _, rfl⟩ := List.mem_map.mp hq
  exact cnt_nn _ _
theorem up_of {t : Int} {f : Int → Int} : ∀ {S : List Int}, Asc S → Up ((S.filter fun s => decide (s ≠ t)).map fun s => (s, f s))
  | [], _ => trivial
  | x :: l, ⟨a, b⟩ => by
    by_cases e : x = t
    · rw [List.filter_cons_of_neg (by simp [e])]
      exact up_of b
    · rw [List.filter_cons_of_pos (by simp [e])]
      refine ⟨fun q hq => ?_, up_of b⟩
      obtain ⟨s, hs, rfl⟩ := List.mem_map.mp hq
      exact a s (List.mem_filter.mp hs).1
theorem tot_of {t : Int} {f : Int → Int} : ∀ {S : List Int}, tot ((S.filter fun s => decide (s ≠ t)).map fun s => (s, f s)) = sums (fun s => if s = t then 0 else f s) S
  | [] => rfl
  | x :: l => by
    rw [sums_cons]
    by_cases e : x = t
    · rw [List.filter_cons_of_neg (by simp [e]), if_pos e, tot_of (S := l), Int.zero_add]
    · rw [List.filter_cons_of_pos (by simp [e]), if_neg e, ← tot_of (S := l)]
      rfl
theorem chs_tot (S : List Int) (t : Int) (g : List Int) : tot (chs S t g) = cnt S (t :: g) := by
  rw [cnt_cons]
  exact tot_of
theorem chs_mem {S : List Int} {t : Int} {g : List Int} {s m : Int} : (s, m) ∈ chs S t g ↔ s ∈ S ∧ s ≠ t ∧ m = cnt (S.erase s) g := by
  unfold chs
  constructor
  · intro h
    obtain ⟨x, hx, e⟩ := List.mem_map.mp h
    cases e
    obtain ⟨h1, h2⟩ := List.mem_filter.mp hx
    exact ⟨h1, of_decide_eq_true h2, rfl⟩
  · rintro ⟨h1, h2, rfl⟩
    exact List.mem_map.mpr ⟨s, List.mem_filter.mpr ⟨h1, decide_eq_true h2⟩, rfl⟩
theorem seat_ok : ∀ {g S : List Int} {n : Int}, Asc S → S.length = g.length → 0 ≤ n → n < cnt S g → Off S g (seatF S g n) ∧ numF S g (seatF S g n) = n
  | [], S, n, _, hl, h0, h1 => by
    have : S = [] := List.eq_nil_of_length_eq_zero hl
    subst this
    rw [cnt_nil] at h1
    exact ⟨⟨rfl, rfl⟩, by show (0 : Int) = n; omega⟩
  | t :: g, S, n, ha, hl, h0, h1 => by
    have hl' : S.length = g.length + 1 := hl
    obtain ⟨m, hm, p0, p1, p2⟩ := pick_of (l := chs S t g) (n := n) (up_of ha) chs_nn h0 (by rw [chs_tot]; exact h1)
    obtain ⟨q1, q2, q3⟩ := chs_mem.mp hm
    obtain ⟨o, e⟩ := seat_ok (g := g) (S := S.erase (pick (chs S t g) n).1) (n := (pick (chs S t g) n).2) (ha.erase _) (by rw [List.length_erase_of_mem q1]; omega) p0 (by rw [← q3]; exact p1)
    refine ⟨⟨_, _, rfl, q1, q2, o⟩, ?_⟩
    show ahead (chs S t g) (pick (chs S t g) n).1 + numF (S.erase (pick (chs S t g) n).1) g (seatF (S.erase (pick (chs S t g) n).1) g (pick (chs S t g) n).2) = n
    rw [e, p2]
theorem num_ok : ∀ {g S p : List Int}, Asc S → S.length = g.length → Off S g p → 0 ≤ numF S g p ∧ numF S g p < cnt S g ∧ seatF S g (numF S g p) = p
  | [], S, p, _, _, ⟨_, e⟩ => by
    subst e
    exact ⟨Int.le_refl 0, by rw [cnt_nil]; exact (by decide : (0 : Int) < 1), rfl⟩
  | t :: g, S, p, ha, hl, ⟨s, p', e, hs, hst, ho⟩ => by
    subst e
    have hl' : S.length = g.length + 1 := hl
    obtain ⟨a, b, c⟩ := num_ok (g := g) (S := S.erase s) (p := p') (ha.erase s) (by rw [List.length_erase_of_mem hs]; omega) ho
    obtain ⟨x, y, z⟩ := pick_back (l := chs S t g) (s := s) (m := cnt (S.erase s) g) (r := numF (S.erase s) g p') (up_of ha) chs_nn (chs_mem.mpr ⟨hs, hst, rfl⟩) a b
    have e : numF S (t :: g) (s :: p') = ahead (chs S t g) s + numF (S.erase s) g p' := rfl
    rw [e]
    refine ⟨by omega, by rw [← chs_tot]; exact z, ?_⟩
    simp only [seatF]
    rw [x, c]
end OfM

/-! OfLst: the lists that the program makes, and what they are worth; plain Lean. -/
set_option Elab.async false
set_option maxRecDepth 100000
namespace OfM

/-- what stands at a power, nothing beyond the list -/
def cf (l : List Int) : Sq := fun k => l.getD k 0
theorem cf_nil : cf [] = fun _ => 0 := by
  funext k
  simp [cf]
theorem cf_cons_0 (x : Int) (l : List Int) : cf (x :: l) 0 = x := rfl
theorem cf_cons_s (x : Int) (l : List Int) (k : Nat) : cf (x :: l) (k + 1) = cf l k := by simp [cf]
theorem cf_one : cf [1] = d0 := by
  funext k
  cases k with
  | zero => rfl
  | succ k => simp [cf, d0]
theorem cf_end {l : List Int} {k : Nat} (h : l.length ≤ k) : cf l k = 0 := by
  unfold cf
  rw [List.getD_eq_getElem?_getD, List.getElem?_eq_none h]
  rfl
theorem cf_get {l : List Int} {k : Nat} (h : k < l.length) : l[k]? = some (cf l k) := by
  unfold cf
  rw [List.getD_eq_getElem?_getD, List.getElem?_eq_getElem h]
  rfl
theorem cf_of {l : List Int} {k : Nat} {x : Int} (h : l[k]? = some x) : cf l k = x := by
  unfold cf
  rw [List.getD_eq_getElem?_getD, h]
  rfl
theorem cf_map {f : Nat → Int} {n k : Nat} (h : k < n) : cf ((List.range n).map f) k = f k := by
  refine cf_of ?_
  rw [List.getElem?_map, List.getElem?_range h]
  rfl
theorem cf_pad (l : List Int) : cf (l ++ [0]) = cf l := by
  funext k
  unfold cf
  rw [List.getD_eq_getElem?_getD, List.getD_eq_getElem?_getD]
  by_cases h : k < l.length
  · rw [List.getElem?_append_left h]
  · rw [List.getElem?_append_right (by omega), List.getElem?_eq_none (l := l) (by omega)]
    by_cases h2 : k - l.length = 0
    · rw [h2]; rfl
    · rw [List.getElem?_eq_none (by simp; omega)]
theorem cf_sh (l : List Int) : cf (0 :: l) = sh (cf l) := by
  funext k
  cases k with
  | zero => rfl
  | succ k => rw [cf_cons_s]; rfl
theorem map_ext {f g : Nat → Int} {n : Nat} (h : ∀ k, k < n → f k = g k) : (List.range n).map f = (List.range n).map g :=
  List.map_congr_left fun k hk => h k (List.mem_range.mp hk)
theorem lst_map (f : Sq) : ∀ (n j : Nat), lst f j n = (List.range n).map fun i => f (j + i)
  | 0, _ => rfl
  | n + 1, j => by
    rw [List.range_succ_eq_map, List.map_cons, List.map_map]
    show f j :: lst f (j + 1) n = f (j + 0) :: _
    rw [lst_map f n (j + 1)]
    congr 1
    refine List.map_congr_left fun i _ => ?_
    show f (j + 1 + i) = f (j + (i + 1))
    congr 1
    omega
theorem lst_map0 (f : Sq) (n : Nat) : lst f 0 n = (List.range n).map f := by
  rw [lst_map]
  refine List.map_congr_left fun i _ => ?_
  rw [Nat.zero_add]
theorem lst_succ (f : Sq) (n : Nat) : lst f 0 (n + 1) = lst f 0 n ++ [f n] := by
  rw [lst_map0, lst_map0, List.range_succ, List.map_append]
  rfl
theorem lst_last (f : Sq) (n : Nat) : (lst f 0 (n + 1)).getLast? = some (f n) := by
  rw [lst_succ, List.getLast?_concat]
/-- a list is what it is worth -/
theorem lst_cf (l : List Int) : lst (cf l) 0 l.length = l := by
  refine List.ext_getElem? fun i => ?_
  by_cases h : i < l.length
  · rw [lst_get _ _ _ _ h, Nat.zero_add, cf_get h]
  · rw [List.getElem?_eq_none (by rw [lst_len]; omega), List.getElem?_eq_none (by omega)]

/-! ### with_part, without_part, the law's picks -/
def wp (s : List Int) (m : Int) : List Int := if m = 0 then s else (List.range (s.length + 1)).map fun k => cf (s ++ [0]) k + m * cf (0 :: s) k
theorem wp_cf (s : List Int) (m : Int) : cf (wp s m) = mp m (cf s) := by
  unfold wp
  by_cases h : m = 0
  · rw [if_pos h, h, mp_zero]
  · rw [if_neg h]
    funext k
    by_cases hk : k < s.length + 1
    · rw [cf_map hk, cf_pad, cf_sh]; rfl
    · rw [cf_end (by rw [List.length_map, List.length_range]; omega)]
      show 0 = cf s k + m * sh (cf s) k
      rw [cf_end (l := s) (by omega)]
      cases k with
      | zero => omega
      | succ k => rw [sh_s, cf_end (l := s) (by omega)]; simp
theorem wp_len (s : List Int) (m : Int) : (wp s m).length = if m = 0 then s.length else s.length + 1 := by
  unfold wp
  split
  · rfl
  · rw [List.length_map, List.length_range]
theorem wp_len_le (s : List Int) (m : Int) : (wp s m).length ≤ s.length + 1 := by
  rw [wp_len]
  split <;> omega
/-- the picks of the law: each time one longer -/
def zp (s : List Int) (m : Int) : List Int := ((s ++ [0]).zip (0 :: s)).map fun p : Int × Int => p.1 + m * p.2
theorem zp_len (s : List Int) (m : Int) : (zp s m).length = s.length + 1 := by
  unfold zp
  rw [List.length_map, List.length_zip, List.length_append, List.length_cons]
  simp
theorem zp_cf (s : List Int) (m : Int) : cf (zp s m) = mp m (cf s) := by
  funext k
  by_cases hk : k < s.length + 1
  · have h1 : (s ++ [0])[k]? = some (cf (s ++ [0]) k) := cf_get (by simp; omega)
    have h2 : (0 :: s)[k]? = some (cf (0 :: s) k) := cf_get (by simp; omega)
    have e : (zp s m)[k]? = some (cf (s ++ [0]) k + m * cf (0 :: s) k) := by
      unfold zp
      have hz : ((s ++ [0]).zip (0 :: s))[k]? = some (cf (s ++ [0]) k, cf (0 :: s) k) := List.getElem?_zip_eq_some.mpr ⟨h1, h2⟩
      rw [List.getElem?_map, hz]
      rfl
    rw [cf_of e, cf_pad, cf_sh]; rfl
  · rw [cf_end (by rw [zp_len]; omega)]
    show 0 = cf s k + m * sh (cf s) k
    rw [cf_end (l := s) (by omega)]
    cases k with
    | zero => omega
    | succ k => rw [sh_s, cf_end (l := s) (by omega)]; simp
/-- many factors, one after another -/
def prB (f : Sq) : List Int → Sq
  | [] => f
  | m :: l => mp m (prB f l)
theorem prB_mp (m : Int) : ∀ (l : List Int) (f : Sq), prB (mp m f) l = mp m (prB f l)
  | [], _ => rfl
  | a :: l, f => by
    show mp a (prB (mp m f) l) = mp m (mp a (prB f l))
    rw [prB_mp m l f, mp_comm]
theorem prB_pr : ∀ l : List Int, prB d0 l = pr l
  | [] => rfl
  | m :: l => by
    show mp m (prB d0 l) = mp m (pr l)
    rw [prB_pr l]
theorem fold_wp : ∀ (l s : List Int), cf (l.foldl wp s) = prB (cf s) l
  | [], _ => rfl
  | m :: l, s => by
    rw [List.foldl_cons, fold_wp l, wp_cf, prB_mp]
    rfl
theorem fold_zp : ∀ (l s : List Int), cf (l.foldl zp s) = prB (cf s) l
  | [], _ => rfl
  | m :: l, s => by
    rw [List.foldl_cons, fold_zp l, zp_cf, prB_mp]
    rfl
/-- sums_of -/
def sm (l : List Int) : List Int := l.foldl wp [1]
theorem sm_cf (l : List Int) : cf (sm l) = pr l := by
  unfold sm
  rw [fold_wp, cf_one, prB_pr]
theorem fold_len : ∀ (l s : List Int), (l.foldl wp s).length ≤ s.length + l.length
  | [], _ => Nat.le_refl _
  | m :: l, s => by
    rw [List.foldl_cons]
    have h1 := fold_len l (wp s m)
    have h2 := wp_len_le s m
    rw [List.length_cons]
    omega
theorem sm_len (l : List Int) : (sm l).length ≤ l.length + 1 := by
  have := fold_len l [1]
  unfold sm
  simp at this
  omega
def zm (l : List Int) : List Int := l.foldl zp [1]
theorem zm_cf (l : List Int) : cf (zm l) = pr l := by
  unfold zm
  rw [fold_zp, cf_one, prB_pr]
theorem zm_len : ∀ (l s : List Int), (l.foldl zp s).length = s.length + l.length
  | [], _ => rfl
  | m :: l, s => by
    rw [List.foldl_cons, zm_len l, zp_len, List.length_cons]
    omega
/-- so great at most -/
theorem pr_le : ∀ {l : List Int}, (∀ m ∈ l, 0 ≤ m ∧ m ≤ 63) → ∀ k, 0 ≤ pr l k ∧ pr l k ≤ 64 ^ l.length
  | [], _, k => by
    simp only [pr, d0]
    split <;> simp
  | m :: l, h, k => by
    have ih := pr_le (l := l) fun x hx => h x (List.mem_cons_of_mem _ hx)
    obtain ⟨m0, m1⟩ := h m List.mem_cons_self
    have e : (64 : Int) ^ (m :: l).length = 64 ^ l.length * 64 := by rw [List.length_cons, Int.pow_succ]
    cases k with
    | zero =>
      have i0 := ih 0
      simp only [pr, mp_0]
      rw [e]
      omega
    | succ k =>
      have i0 := ih (k + 1)
      have i1 := ih k
      simp only [pr, mp_s]
      rw [e]
      have a := Int.mul_nonneg m0 i1.1
      have b : m * pr l k ≤ 63 * 64 ^ l.length := Int.mul_le_mul m1 i1.2 i1.1 (by omega)
      omega
theorem fac_le : ∀ {n : Nat}, n ≤ 63 → fac n ≤ 64 ^ n
  | 0, _ => by decide
  | n + 1, h => by
    have ih := fac_le (n := n) (by omega)
    have h0 := fac_pos n
    show fac n * ((n : Int) + 1) ≤ 64 ^ (n + 1)
    rw [Int.pow_succ]
    exact Int.mul_le_mul ih (by omega) (by omega) (Int.le_of_lt (Int.pow_pos (by decide)))
theorem pow_lt {x : Int} {n : Nat} (h0 : 0 ≤ x) (h : x ≤ 64 ^ n) (hn : n ≤ 64) : x.natAbs < 2 ^ 400 := by
  have h1 : (64 : Nat) ^ n ≤ 64 ^ 64 := Nat.pow_le_pow_right (by decide) hn
  have h2 : (64 : Nat) ^ 64 < 2 ^ 400 := by
    have e : (64 : Nat) ^ 64 = 2 ^ 384 := by
      rw [show (64 : Nat) = 2 ^ 6 from rfl, ← Nat.pow_mul]
    rw [e]
    exact Nat.pow_lt_pow_right (by decide) (by decide)
  have h3 : x.natAbs ≤ 64 ^ n := by
    have : (x.natAbs : Int) ≤ ((64 ^ n : Nat) : Int) := by
      rw [Int.natAbs_of_nonneg h0]
      simpa using h
    exact Int.ofNat_le.mp this
  exact Nat.lt_of_le_of_lt (Nat.le_trans h3 h1) h2
theorem pr_big {l : List Int} (h : ∀ m ∈ l, 0 ≤ m ∧ m ≤ 63) (hl : l.length ≤ 64) (k : Nat) : (pr l k).natAbs < 2 ^ 400 := pow_lt (pr_le h k).1 (pr_le h k).2 hl
theorem fac_big {n : Nat} (h : n ≤ 63) : (fac n).natAbs < 2 ^ 400 := pow_lt (Int.le_of_lt (fac_pos n)) (fac_le h) (by omega)

/-! ### the seats, and how many shun each -/
def seats (n : Nat) : List Int := (List.range n).map fun i : Nat => (i : Int)
theorem seats_len (n : Nat) : (seats n).length = n := by unfold seats; rw [List.length_map, List.length_range]
theorem seats_mem {n : Nat} {s : Int} : s ∈ seats n ↔ 0 ≤ s ∧ s < n := by
  unfold seats
  constructor
  · intro h
    obtain ⟨i, hi, rfl⟩ := List.mem_map.mp h
    have := List.mem_range.mp hi
    omega
  · rintro ⟨h0, h1⟩
    exact List.mem_map.mpr ⟨s.toNat, List.mem_range.mpr (by omega), by omega⟩
theorem seats_succ (n : Nat) : seats (n + 1) = seats n ++ [(n : Int)] := by
  unfold seats
  rw [List.range_succ, List.map_append]
  rfl
theorem asc_snoc : ∀ {l : List Int} {x : Int}, Asc l → (∀ q ∈ l, q < x) → Asc (l ++ [x])
  | [], _, _, _ => ⟨fun _ h => (nomatch h), trivial⟩
  | a :: l, x, ⟨h1, h2⟩, h => by
    refine ⟨fun q hq => ?_, asc_snoc h2 fun q hq => h q (List.mem_cons_of_mem _ hq)⟩
    rcases List.mem_append.mp hq with z | z
    · exact h1 q z
    · rw [List.mem_singleton.mp z]; exact h a List.mem_cons_self
theorem seats_asc : ∀ n, Asc (seats n)
  | 0 => trivial
  | n + 1 => by
    rw [seats_succ]
    exact asc_snoc (seats_asc n) fun q hq => (seats_mem.mp hq).2
theorem seats_nodup (n : Nat) : (seats n).Nodup := (seats_asc n).nodup
def marks (n : Nat) (g : List Int) : List Int := (List.range n).map fun s : Nat => ct (s : Int) g
theorem marks_len (n : Nat) (g : List Int) : (marks n g).length = n := by unfold marks; rw [List.length_map, List.length_range]
theorem marks_seats (n : Nat) (g : List Int) : marks n g = (seats n).map fun s => ct s g := by
  unfold marks seats
  rw [List.map_map]
  rfl
theorem marks_get {n : Nat} (g : List Int) {s : Nat} (h : s < n) : (marks n g)[s]? = some (ct (s : Int) g) := by
  unfold marks
  rw [List.getElem?_map, List.getElem?_range h]
  rfl
theorem marks_ok {n : Nat} {g : List Int} (h : g.length ≤ 63) : ∀ m ∈ marks n g, 0 ≤ m ∧ m ≤ 63 := fun m hm => by
  rw [marks_seats] at hm
  obtain ⟨s, _, rfl⟩ := List.mem_map.mp hm
  have := ct_le s g
  have := ct_nn s g
  omega
theorem marks_nil (n : Nat) : marks n [] = List.replicate n 0 := by
  refine List.ext_getElem? fun i => ?_
  by_cases h : i < n
  · rw [marks_get _ h, List.getElem?_replicate, if_pos h]; rfl
  · rw [List.getElem?_eq_none (by rw [marks_len]; omega), List.getElem?_eq_none (by simp; omega)]
theorem ct_snoc (s t : Int) (g : List Int) : ct s (g ++ [t]) = ct s g + if t = s then 1 else 0 := by
  unfold ct
  rw [List.count_append]
  by_cases h : t = s
  · subst h; simp
  · simp [h]
theorem marks_snoc {n : Nat} (g : List Int) {s : Nat} (h : s < n) : marks n (g ++ [(s : Int)]) = (marks n g).set s (ct (s : Int) g + 1) := by
  refine List.ext_getElem? fun i => ?_
  by_cases hi : i < n
  · rw [marks_get _ hi, ct_snoc]
    by_cases e : i = s
    · subst e
      rw [List.getElem?_set_self (by rw [marks_len]; exact hi), if_pos rfl]
    · rw [List.getElem?_set_ne (fun q => e q.symm), marks_get _ hi, if_neg (by omega), Int.add_zero]
  · rw [List.getElem?_eq_none (by rw [marks_len]; omega), List.getElem?_eq_none (by rw [List.length_set, marks_len]; omega)]
theorem marks_out {n : Nat} (g : List Int) {t : Int} (h : t < 0) : marks n (g ++ [t]) = marks n g := by
  refine List.ext_getElem? fun i => ?_
  by_cases hi : i < n
  · rw [marks_get _ hi, marks_get _ hi, ct_snoc, if_neg (by omega), Int.add_zero]
  · rw [List.getElem?_eq_none (by rw [marks_len]; omega), List.getElem?_eq_none (by rw [marks_len]; omega)]
theorem sm_rk (g : List Int) (n : Nat) : cf (sm (marks n g)) = rk (seats n) g := by rw [sm_cf, marks_seats]; rfl
theorem zm_rk (g : List Int) (n : Nat) : cf (zm (marks n g)) = rk (seats n) g := by rw [zm_cf, marks_seats]; rfl
theorem rk_big {g : List Int} {n : Nat} (hg : g.length ≤ 63) (hn : n ≤ 64) (k : Nat) : (rk (seats n) g k).natAbs < 2 ^ 400 := by
  have h := pr_big (marks_ok (n := n) hg) (by rw [marks_len]; exact hn) k
  rw [marks_seats] at h
  exact h

/-! ### the passes, in place -/
/-- after some passes: what is done, what is left -/
def trS : Nat → List Int → List Int × List Int
  | 0, l => ([], l)
  | i + 1, l => match alt (trS i l).2 with
    | [] => ((trS i l).1, [])
    | x :: t => ((trS i l).1 ++ [x], t)
theorem trS_step {i : Nat} {l : List Int} {x : Int} {t : List Int} (h : alt (trS i l).2 = x :: t) : trS (i + 1) l = ((trS i l).1 ++ [x], t) := by
  show (match alt (trS i l).2 with | [] => ((trS i l).1, []) | x :: t => ((trS i l).1 ++ [x], t)) = _
  rw [h]
theorem trS_len : ∀ {i : Nat} {l : List Int}, i ≤ l.length → (trS i l).1.length = i ∧ (trS i l).2.length = l.length - i
  | 0, l, _ => ⟨rfl, by simp [trS]⟩
  | i + 1, l, h => by
    obtain ⟨a, b⟩ := trS_len (i := i) (l := l) (by omega)
    have hl := alt_len (trS i l).2
    cases e : alt (trS i l).2 with
    | nil =>
      rw [e, b] at hl
      simp at hl
      omega
    | cons x t =>
      rw [trS_step e]
      rw [e, b, List.length_cons] at hl
      exact ⟨by rw [List.length_append, a]; rfl, by show t.length = _; omega⟩
theorem trS_trF : ∀ {i n : Nat} {l : List Int}, i ≤ n → n ≤ l.length → trF n l = (trS i l).1 ++ trF (n - i) (trS i l).2
  | 0, n, l, _, _ => rfl
  | i + 1, n, l, h, hn => by
    rw [trS_trF (i := i) (n := n) (l := l) (by omega) hn]
    have hlen := (trS_len (i := i) (l := l) (by omega)).2
    have hl := alt_len (trS i l).2
    have en : n - i = (n - (i + 1)) + 1 := by omega
    cases e : alt (trS i l).2 with
    | nil =>
      rw [e, hlen] at hl
      simp at hl
      omega
    | cons x t =>
      rw [trS_step e, en]
      simp only [trF]
      rw [e]
      show (trS i l).1 ++ (x :: trF (n - (i + 1)) t) = ((trS i l).1 ++ [x]) ++ trF (n - (i + 1)) t
      rw [List.append_assoc]
      rfl
theorem trF_one (l : List Int) (h : l.length ≤ 1) : ∀ n, trF n l = l := by
  intro n
  match l, h with
  | [], _ => cases n <;> rfl
  | [x], _ =>
    cases n with
    | zero => rfl
    | succ n =>
      have e : alt [x] = [x] := by simp [alt]
      simp only [trF]
      rw [e]
      show x :: trF n [] = [x]
      cases n <;> rfl
/-- the whole: n passes over n + 1 -/
theorem trS_all {n : Nat} {l : List Int} (h : l.length = n + 1) : (trS n l).1 ++ (trS n l).2 = trF n l := by
  rw [trS_trF (Nat.le_refl n) (by omega), Nat.sub_self]
  rfl
/-- one pass, from behind: j steps done -/
def part (r : List Int) (j : Nat) : List Int := r.take (r.length - 1 - j) ++ alt (r.drop (r.length - 1 - j))
theorem part_0 {r : List Int} (h : 0 < r.length) : part r 0 = r := by
  unfold part
  rw [Nat.sub_zero]
  obtain ⟨a, x, rfl⟩ : ∃ a x, r = a ++ [x] := by
    rcases List.eq_nil_or_concat r with e | ⟨a, x, e⟩
    · rw [e] at h; exact absurd h (by decide)
    · exact ⟨a, x, by rw [e, List.concat_eq_append]⟩
  have e : (a ++ [x]).length - 1 = a.length := by simp
  rw [e, List.take_left, List.drop_left]
  simp [alt]
theorem part_all {r : List Int} : part r (r.length - 1) = alt r := by
  unfold part
  rw [Nat.sub_self]
  rfl
theorem part_len (r : List Int) (j : Nat) : (part r j).length = r.length := by
  unfold part
  rw [List.length_append, alt_len, List.length_take, List.length_drop]
  omega
/-- a step: at q = |r| - 2 - j -/
theorem part_step {r : List Int} {j q : Nat} (hq : q + j + 2 = r.length) :
    (part r j)[q]? = some (cf (part r j) q) ∧ (part r j)[q + 1]? = some (cf (part r j) (q + 1)) ∧ part r (j + 1) = (part r j).set q (cf (part r j) q - cf (part r j) (q + 1)) := by
  have hl := part_len r j
  refine ⟨cf_get (by omega), cf_get (by omega), ?_⟩
  have e1 : r.length - 1 - j = q + 1 := by omega
  have e2 : r.length - 1 - (j + 1) = q := by omega
  have lt : q < r.length := by omega
  have pe : part r j = r.take (q + 1) ++ alt (r.drop (q + 1)) := by unfold part; rw [e1]
  have pe' : part r (j + 1) = r.take q ++ alt (r.drop q) := by unfold part; rw [e2]
  have tq : (r.take q).length = q := by rw [List.length_take]; omega
  have tk : r.take (q + 1) = r.take q ++ [r[q]] := by rw [List.take_add_one, List.getElem?_eq_getElem lt]; rfl
  have dr : r.drop q = r[q] :: r.drop (q + 1) := List.drop_eq_getElem_cons lt
  have hp : part r j = r.take q ++ (r[q] :: alt (r.drop (q + 1))) := by rw [pe, tk, List.append_assoc]; rfl
  have c1 : cf (part r j) q = r[q] := by
    refine cf_of ?_
    rw [hp, List.getElem?_append_right (by omega), tq, Nat.sub_self]
    rfl
  have c2 : cf (part r j) (q + 1) = (alt (r.drop (q + 1))).headD 0 := by
    have hne : (alt (r.drop (q + 1))).length ≠ 0 := by rw [alt_len, List.length_drop]; omega
    cases ea : alt (r.drop (q + 1)) with
    | nil => rw [ea] at hne; exact absurd rfl hne
    | cons y t =>
      refine cf_of ?_
      rw [hp, List.getElem?_append_right (by omega), tq, ea]
      have : q + 1 - q = 1 := by omega
      rw [this]
      rfl
  rw [c1, c2, pe', dr, hp]
  show r.take q ++ ((r[q] - (alt (r.drop (q + 1))).headD 0) :: alt (r.drop (q + 1))) = _
  rw [List.set_append_right _ _ (by omega), tq, Nat.sub_self]
  rfl
theorem lst_set (f : Sq) (n i : Nat) (x : Int) : (lst f 0 n).set i x = lst (fun k => if k = i then x else f k) 0 n := by
  refine List.ext_getElem? fun k => ?_
  by_cases hk : k < n
  · rw [lst_get _ _ _ _ hk, Nat.zero_add]
    by_cases e : k = i
    · subst e
      rw [List.getElem?_set_self (by rw [lst_len]; exact hk), if_pos rfl]
    · rw [List.getElem?_set_ne (fun q => e q.symm), lst_get _ _ _ _ hk, Nat.zero_add, if_neg e]
  · rw [List.getElem?_eq_none (by rw [List.length_set, lst_len]; omega), List.getElem?_eq_none (by rw [lst_len]; omega)]
theorem lst_zero (n : Nat) : lst (fun _ => 0) 0 n = List.replicate n 0 := by
  refine List.ext_getElem? fun k => ?_
  by_cases hk : k < n
  · rw [lst_get _ _ _ _ hk, List.getElem?_replicate, if_pos hk]
  · rw [List.getElem?_eq_none (by rw [lst_len]; omega), List.getElem?_eq_none (by simp; omega)]
theorem lst_at {f : Sq} {n i : Nat} (h : i < n) : (lst f 0 n)[i]? = some (f i) := by rw [lst_get _ _ _ _ h, Nat.zero_add]
end OfM

/-! OfSit: a seating by exchanges; what bars any; plain Lean. -/
set_option Elab.async false
set_option maxRecDepth 100000
namespace OfM
/-- whether a seating has each seat once, and all sit off -/
def offB (g l : List Int) : Bool := decide (l.Perm (seats g.length)) && !((l.zip g).any fun p => decide (p.1 = p.2))
/-- whether all shun the seat t, one of one at least -/
def barB (g : List Int) (t : Int) : Bool := decide (0 ≤ t) && (!decide (g = []) && g.all fun x => decide (x = t))
/-- two of a list exchanged -/
def swp (s : List Int) (i j : Nat) : List Int := (s.set i (cf s j)).set j (cf s i)
theorem swp_len (s : List Int) (i j : Nat) : (swp s i j).length = s.length := by
  unfold swp
  rw [List.length_set, List.length_set]
theorem swp_cf {s : List Int} {i j k : Nat} (hi : i < s.length) (hj : j < s.length) : cf (swp s i j) k = if k = j then cf s i else if k = i then cf s j else cf s k := by
  unfold swp
  by_cases e1 : k = j
  · subst e1
    rw [if_pos rfl]
    exact cf_of (List.getElem?_set_self (by rw [List.length_set]; exact hj))
  · rw [if_neg e1]
    by_cases e2 : k = i
    · subst e2
      rw [if_pos rfl]
      refine cf_of ?_
      rw [List.getElem?_set_ne (fun q => e1 q.symm)]
      exact List.getElem?_set_self hi
    · rw [if_neg e2]
      by_cases hk : k < s.length
      · refine cf_of ?_
        rw [List.getElem?_set_ne (fun q => e1 q.symm), List.getElem?_set_ne (fun q => e2 q.symm), cf_get hk]
      · rw [cf_end (by rw [List.length_set, List.length_set]; omega), cf_end (by omega)]
theorem swp_same (s : List Int) {i : Nat} (hi : i < s.length) : swp s i i = s := by
  refine List.ext_getElem? fun k => ?_
  by_cases hk : k < s.length
  · rw [cf_get (l := swp s i i) (by rw [swp_len]; exact hk), swp_cf hi hi, cf_get hk]
    by_cases e : k = i
    · subst e; rw [if_pos rfl]
    · rw [if_neg e, if_neg e]
  · rw [List.getElem?_eq_none (by rw [swp_len]; omega), List.getElem?_eq_none (by omega)]
theorem swp_perm {s : List Int} {i j : Nat} (hi : i < s.length) (hj : j < s.length) : (swp s i j).Perm s := by
  by_cases e : i = j
  · subst e
    rw [swp_same s hi]
  · rw [List.perm_iff_count]
    intro a
    have gi : s[i] = cf s i := (cf_of (List.getElem?_eq_getElem hi)).symm
    have gj : s[j] = cf s j := (cf_of (List.getElem?_eq_getElem hj)).symm
    have hj' : j < (s.set i (cf s j)).length := by rw [List.length_set]; exact hj
    have gj' : (s.set i (cf s j))[j] = cf s j := by
      rw [List.getElem_set_ne e]
      exact gj
    have p1 : s[i] = a → 0 < s.count a := fun h => List.count_pos_iff.mpr (h ▸ List.getElem_mem hi)
    have p2 : (s.set i (cf s j))[j] = a → 0 < (s.set i (cf s j)).count a := fun h => List.count_pos_iff.mpr (h ▸ List.getElem_mem hj')
    unfold swp
    rw [List.count_set hj']
    have c1 := List.count_set (a := cf s j) (b := a) (l := s) hi
    rw [gj'] at p2 ⊢
    rw [gi] at p1 c1
    rw [c1] at p2 ⊢
    by_cases h1 : cf s i = a
    · have q1 := p1 h1
      by_cases h2 : cf s j = a
      · simp only [h1, h2, beq_self_eq_true, if_true] at p2 ⊢
        omega
      · have b2 : (cf s j == a) = false := by simpa using h2
        simp only [h1, b2, beq_self_eq_true, if_true] at p2 ⊢
        simp
        omega
    · have b1 : (cf s i == a) = false := by simpa using h1
      by_cases h2 : cf s j = a
      · have q2 := p2 h2
        simp only [h2, b1, beq_self_eq_true, if_true] at q2 ⊢
        simp
      · have b2 : (cf s j == a) = false := by simpa using h2
        simp [b1, b2]
/-- who may exchange with i -/
def good (g s : List Int) (i o : Nat) : Bool := !decide (cf s o = cf g i) && !decide (cf s i = cf g o)
def stp (g s : List Int) (i : Nat) : List Int := if cf s i = cf g i then (match (List.range g.length).find? (good g s i) with | some o => swp s i o | none => s) else s
def sit (g : List Int) : List Int := (List.range g.length).foldl (stp g) (seats g.length)
/-- the answer: a seat that all shun, or a seating -/
def barred (g : List Int) : Prop := 0 < g.length ∧ 0 ≤ cf g 0 ∧ g.count (cf g 0) = g.length
instance (g : List Int) : Decidable (barred g) := by unfold barred; exact inferInstance
theorem count_all {g : List Int} {t : Int} (h : g.count t = g.length) : ∀ x ∈ g, x = t := fun x hx => (List.count_eq_length.mp h x hx).symm
theorem all_count {g : List Int} {t : Int} (h : ∀ x ∈ g, x = t) : g.count t = g.length := List.count_eq_length.mpr fun x hx => (h x hx).symm
theorem stp_len (g s : List Int) (i : Nat) : (stp g s i).length = s.length := by
  unfold stp
  split
  · split
    · rw [swp_len]
    · rfl
  · rfl
/-- so far all sit off, each seat once -/
structure Sits (g s : List Int) (i : Nat) : Prop where
  p : s.Perm (seats g.length)
  off : ∀ k, k < i → cf s k ≠ cf g k
theorem perm_inj {g s : List Int} (p : s.Perm (seats g.length)) {a b : Nat} (ha : a < s.length) (hb : b < s.length) (h : cf s a = cf s b) : a = b := by
  have nd : s.Nodup := p.nodup_iff.mpr (seats_nodup _)
  have e : s[a] = s[b] := by
    rw [← cf_of (List.getElem?_eq_getElem ha), ← cf_of (List.getElem?_eq_getElem hb)]
    exact h
  exact (List.getElem_inj nd).mp e
theorem sits_step {g s : List Int} {i : Nat} (hi : i < g.length) (nb : ¬ barred g) (hg : ∀ x ∈ g, -1 ≤ x) (h : Sits g s i) : Sits g (stp g s i) (i + 1) := by
  have hl : s.length = g.length := by rw [h.p.length_eq, seats_len]
  unfold stp
  by_cases c : cf s i = cf g i
  · rw [if_pos c]
    cases f : (List.range g.length).find? (good g s i) with
    | some o =>
      have ho := List.mem_range.mp (List.mem_of_find?_eq_some f)
      have go := List.find?_some f
      unfold good at go
      simp only [Bool.and_eq_true, Bool.not_eq_true', decide_eq_false_iff_not] at go
      refine ⟨(swp_perm (by omega) (by omega)).trans h.p, fun k hk => ?_⟩
      rw [swp_cf (by omega) (by omega)]
      by_cases e1 : k = o
      · subst e1
        rw [if_pos rfl]
        exact go.2
      · rw [if_neg e1]
        by_cases e2 : k = i
        · subst e2
          rw [if_pos rfl]
          exact go.1
        · rw [if_neg e2]
          exact h.off k (by omega)
    | none =>
      exfalso
      have all := List.find?_eq_none.mp f
      have hsi : 0 ≤ cf s i := (seats_mem.mp (h.p.mem_iff.mp (List.mem_of_getElem? (cf_get (l := s) (k := i) (by omega))))).1
      -- all shun the seat that i shuns
      have ev : ∀ o, o < g.length → cf g o = cf g i := fun o ho => by
        by_cases e : o = i
        · rw [e]
        · have hno := all o (List.mem_range.mpr ho)
          have so : cf s o ≠ cf g i := fun q => e (perm_inj h.p (by omega) (by omega) (q.trans c.symm))
          unfold good at hno
          simp only [Bool.and_eq_true, Bool.not_eq_true', decide_eq_false_iff_not, not_and, Decidable.not_not] at hno
          rw [← hno so, c]
      refine nb ⟨by omega, ?_, all_count fun x hx => ?_⟩
      · rw [ev 0 (by omega), ← c]
        exact hsi
      · obtain ⟨k, hk, e⟩ := List.getElem_of_mem hx
        rw [← e, ← cf_of (List.getElem?_eq_getElem hk), ev k hk, ev 0 (by omega)]
  · rw [if_neg c]
    refine ⟨h.p, fun k hk => ?_⟩
    by_cases e : k = i
    · subst e; exact c
    · exact h.off k (by omega)
theorem sits_all {g : List Int} (nb : ¬ barred g) (hg : ∀ x ∈ g, -1 ≤ x) : ∀ i, i ≤ g.length → Sits g ((List.range i).foldl (stp g) (seats g.length)) i
  | 0, _ => ⟨List.Perm.refl _, fun k hk => absurd hk (Nat.not_lt_zero _)⟩
  | i + 1, h => by
    rw [List.range_succ, List.foldl_append]
    exact sits_step (by omega) nb hg (sits_all nb hg i (by omega))
theorem sit_ok {g : List Int} (nb : ¬ barred g) (hg : ∀ x ∈ g, -1 ≤ x) : Sits g (sit g) g.length := sits_all nb hg _ (Nat.le_refl _)
theorem fold_len' {g : List Int} : ∀ (l : List Nat) (s : List Int), (l.foldl (stp g) s).length = s.length
  | [], _ => rfl
  | i :: l, s => by
    rw [List.foldl_cons, fold_len' l, stp_len]
theorem sit_len (g : List Int) : (sit g).length = g.length := by
  unfold sit
  rw [fold_len', seats_len]
/-- whose lengths are one: pointwise -/
theorem any_zip {l g : List Int} (h : l.length = g.length) : ((l.zip g).any fun p => decide (p.1 = p.2)) = (List.range g.length).any fun i => decide (cf l i = cf g i) := by
  rw [Bool.eq_iff_iff, List.any_eq_true, List.any_eq_true]
  constructor
  · rintro ⟨⟨x, y⟩, hm, e⟩
    obtain ⟨i, hi, ei⟩ := List.getElem_of_mem hm
    rw [List.length_zip] at hi
    rw [List.getElem_zip] at ei
    injection ei with e1 e2
    refine ⟨i, List.mem_range.mpr (by omega), ?_⟩
    rw [cf_of (List.getElem?_eq_getElem (by omega : i < l.length)), cf_of (List.getElem?_eq_getElem (by omega : i < g.length)), e1, e2]
    exact e
  · rintro ⟨i, hi, e⟩
    have hi := List.mem_range.mp hi
    refine ⟨(cf l i, cf g i), ?_, e⟩
    exact List.mem_of_getElem? (List.getElem?_zip_eq_some.mpr ⟨cf_get (by omega), cf_get hi⟩ : (l.zip g)[i]? = some (cf l i, cf g i))
theorem offB_of {g l : List Int} (p : l.Perm (seats g.length)) (h : ∀ k, k < g.length → cf l k ≠ cf g k) : offB g l = true := by
  unfold offB
  rw [decide_eq_true p, any_zip (by rw [p.length_eq, seats_len])]
  simp only [Bool.true_and, Bool.not_eq_true', List.any_eq_false, decide_eq_true_eq]
  intro i hi
  exact h i (List.mem_range.mp hi)
theorem offB_len {g l : List Int} (h : offB g l = true) : l.length = g.length := by
  unfold offB at h
  have p : l.Perm (seats g.length) := of_decide_eq_true (Bool.and_eq_true_iff.mp h).1
  rw [p.length_eq, seats_len]
theorem offB_parts {g l : List Int} (h : offB g l = true) : l.Perm (seats g.length) ∧ ∀ k, k < g.length → cf l k ≠ cf g k := by
  have hl := offB_len h
  unfold offB at h
  obtain ⟨h1, h2⟩ := Bool.and_eq_true_iff.mp h
  refine ⟨of_decide_eq_true h1, fun k hk e => ?_⟩
  rw [any_zip hl] at h2
  simp only [Bool.not_eq_true', List.any_eq_false, decide_eq_true_eq] at h2
  exact h2 k (List.mem_range.mpr hk) e
/-- pointwise off: off, guest by guest -/
theorem off_of : ∀ {g S l : List Int}, l.Perm S → l.length = g.length → (∀ k, k < g.length → cf l k ≠ cf g k) → Off S g l
  | [], S, l, p, hl, _ => by
    have e : l = [] := List.eq_nil_of_length_eq_zero hl
    subst e
    exact ⟨p.symm.eq_nil, rfl⟩
  | t :: g, S, [], _, hl, _ => by simp at hl
  | t :: g, S, s :: l, p, hl, h => by
    refine ⟨s, l, rfl, p.mem_iff.mp List.mem_cons_self, ?_, off_of (List.cons_perm_iff_perm_erase.mp p).2 (by simpa using hl) fun k hk => ?_⟩
    · have := h 0 (Nat.succ_pos _)
      rw [cf_cons_0, cf_cons_0] at this
      exact this
    · have := h (k + 1) (by show k + 1 < g.length + 1; omega)
      rw [cf_cons_s, cf_cons_s] at this
      exact this
theorem off_back : ∀ {g S l : List Int}, Off S g l → l.Perm S ∧ l.length = g.length ∧ ∀ k, k < g.length → cf l k ≠ cf g k
  | [], S, l, ⟨e1, e2⟩ => by
    subst e1 e2
    exact ⟨List.Perm.refl _, rfl, fun k hk => absurd hk (Nat.not_lt_zero _)⟩
  | t :: g, S, l, ⟨s, l', e, hs, hst, ho⟩ => by
    subst e
    obtain ⟨p, hl, h⟩ := off_back ho
    refine ⟨List.cons_perm_iff_perm_erase.mpr ⟨hs, p⟩, by rw [List.length_cons, hl]; rfl, fun k hk => ?_⟩
    cases k with
    | zero => rw [cf_cons_0, cf_cons_0]; exact hst
    | succ k =>
      rw [cf_cons_s, cf_cons_s]
      exact h k (by have hk' : k + 1 < g.length + 1 := hk; omega)
theorem offB_off {g l : List Int} (h : offB g l = true) : Off (seats g.length) g l := by
  obtain ⟨p, q⟩ := offB_parts h
  exact off_of p (offB_len h) q
theorem off_offB {g l : List Int} (h : Off (seats g.length) g l) : offB g l = true := by
  obtain ⟨p, _, q⟩ := off_back h
  exact offB_of p q
/-- WHAT BARS ANY -/
theorem cnt_zero {g : List Int} (hg : ∀ x ∈ g, -1 ≤ x ∧ x < (g.length : Int)) : cnt (seats g.length) g = 0 ↔ barred g := by
  constructor
  · intro h
    refine Decidable.byContradiction fun nb => ?_
    obtain ⟨p, q⟩ := sit_ok nb fun x hx => (hg x hx).1
    have := (off_of p (sit_len g) q).pos
    omega
  · rintro ⟨h0, h1, h2⟩
    have m0 : cf g 0 ∈ g := List.mem_of_getElem? (cf_get h0)
    exact cnt_barred (t := cf g 0) (count_all h2) (seats_mem.mpr ⟨h1, (hg _ m0).2⟩) (seats_nodup _) (seats_len _)
end OfM

/-! OfHall: without_part, the ways that are left, the hall as its guests stand up and its seats are taken; plain Lean. -/
set_option Elab.async false
set_option maxRecDepth 100000
namespace OfM
/-- without_part's loop -/
def wl (m : Int) : Int → List Int → List Int
  | _, [] => []
  | last, x :: l => (x - m * last) :: wl m (x - m * last) l
def wo (s : List Int) (m : Int) : List Int := if m = 0 then s else wl m 0 s.dropLast
theorem wl_len (m : Int) : ∀ (l : List Int) (last : Int), (wl m last l).length = l.length
  | [], _ => rfl
  | x :: l, last => by
    show (wl m (x - m * last) l).length + 1 = l.length + 1
    rw [wl_len m l]
theorem wl_snoc (m : Int) : ∀ (l : List Int) (last x : Int), wl m last (l ++ [x]) = wl m last l ++ [x - m * (last :: wl m last l).getLastD 0]
  | [], last, x => rfl
  | y :: l, last, x => by
    show (y - m * last) :: wl m (y - m * last) (l ++ [x]) = _
    rw [wl_snoc m l]
    show _ = (y - m * last) :: wl m (y - m * last) l ++ _
    rw [List.cons_append]
    congr 3
theorem wo_len (s : List Int) (m : Int) : (wo s m).length = if m = 0 then s.length else s.length - 1 := by
  unfold wo
  split
  · rfl
  · rw [wl_len, List.length_dropLast]
theorem wo_len_le (s : List Int) (m : Int) : (wo s m).length ≤ s.length := by
  rw [wo_len]
  split <;> omega
theorem wl_mp (m : Int) (f : Sq) : ∀ (n j : Nat), wl m (sh f j) (lst (mp m f) j n) = lst f j n
  | 0, _ => rfl
  | n + 1, j => by
    have e : mp m f j - m * sh f j = f j := by show f j + m * sh f j - m * sh f j = f j; omega
    show (mp m f j - m * sh f j) :: wl m (mp m f j - m * sh f j) (lst (mp m f) (j + 1) n) = f j :: lst f (j + 1) n
    rw [e]
    congr 1
    exact wl_mp m f n (j + 1)
theorem cf_lst {f : Sq} {n : Nat} (h : ∀ k, n ≤ k → f k = 0) : cf (lst f 0 n) = f := by
  funext k
  by_cases hk : k < n
  · exact cf_of (lst_at hk)
  · rw [cf_end (by rw [lst_len]; omega), h k (by omega)]
/-- one factor taken out again -/
theorem wo_cf {s : List Int} {m : Int} {f : Sq} (h : cf s = mp m f) (hm : 0 ≤ m) (hf : ∀ k, 0 ≤ f k) (h0 : f 0 ≠ 0) : cf (wo s m) = f := by
  unfold wo
  by_cases e : m = 0
  · rw [if_pos e, h, e, mp_zero]
  · rw [if_neg e]
    have hl : 0 < s.length := by
      refine Nat.pos_of_ne_zero fun z => h0 ?_
      have := congrFun h 0
      rw [cf_end (by omega), mp_0] at this
      exact this.symm
    obtain ⟨n, hn⟩ : ∃ n, s.length = n + 1 := ⟨s.length - 1, by omega⟩
    have es : s = lst (mp m f) 0 (n + 1) := by rw [← h, ← hn, lst_cf]
    have ed : s.dropLast = lst (mp m f) 0 n := by rw [es, lst_succ, List.dropLast_concat]
    rw [ed]
    have w := wl_mp m f n 0
    rw [sh_0] at w
    rw [w]
    refine cf_lst fun k hk => ?_
    have hz : cf s (k + 1) = 0 := cf_end (by omega)
    rw [h, mp_s] at hz
    have h1 := hf k
    have h2 := hf (k + 1)
    have h3 : 0 ≤ m * f k := Int.mul_nonneg hm h1
    have h4 : m * f k = 0 := by omega
    rcases Int.mul_eq_zero.mp h4 with z | z
    · exact absurd z e
    · exact z
/-- the ways -/
def ws (s : List Int) (m : Nat) : Int := asum (fun k => cf s k * fac (m - k)) (min s.length (m + 1))
theorem ws_cnt {s S g : List Int} {m : Nat} (h : cf s = rk S g) (hn : S.Nodup) (hl : S.length = g.length) (hm : m = g.length) : ws s m = cnt S g := by
  subst hm
  unfold ws cnt
  rw [← asum_pick hn hl, ← h]
  refine (asum_cut (Nat.min_le_right _ _) fun k h1 h2 => ?_).symm
  rw [cf_end (by omega), Int.zero_mul]
/-- so far: part of the sum -/
theorem asum_s (f : Sq) (n : Nat) : asum f (n + 1) = asum f n + (if n % 2 = 0 then f n else - f n) := rfl
/-- the hall's sums -/
structure Sm (s S g : List Int) : Prop where
  eq : OfM.cf s = rk S g
  len : s.length ≤ 64
theorem rk_big' {S g : List Int} (hg : g.length ≤ 63) (hn : S.length ≤ 64) (k : Nat) : (rk S g k).natAbs < 2 ^ 400 := by
  refine pr_big (fun m hm => ?_) (by rw [List.length_map]; exact hn) k
  obtain ⟨s, _, rfl⟩ := List.mem_map.mp hm
  have := ct_le s g
  have := ct_nn s g
  omega
theorem rk_one (S g : List Int) : rk S g 0 ≠ 0 := by rw [rk_0]; decide
/-- a seat is taken -/
theorem Sm.take {s S g : List Int} {x : Int} (h : Sm s S g) (hx : x ∈ S) : Sm (wo s (ct x g)) (S.erase x) g :=
  ⟨wo_cf (by rw [h.eq, rk_take g hx]) (ct_nn x g) (rk_nn _ _) (rk_one _ _), Nat.le_trans (wo_len_le _ _) h.len⟩
/-- a guest stands up -/
theorem Sm.turn {s S g : List Int} {t : Int} (h : Sm s S (t :: g)) (hn : S.Nodup) (ht : t ∈ S) : Sm (wp (wo s (ct t (t :: g))) (ct t (t :: g) - 1)) S g := by
  have ec : ct t (t :: g) = ct t g + 1 := ct_same t g
  have h1 : cf (wo s (ct t (t :: g))) = rk (S.erase t) g := by
    have a := (h.take ht).eq
    rw [rk_out g (hn.not_mem_erase)] at a
    exact a
  refine ⟨?_, ?_⟩
  · rw [wp_cf, h1, ec, Int.add_sub_cancel, ← rk_take g ht]
  · have l1 := wp_len_le (wo s (ct t (t :: g))) (ct t (t :: g) - 1)
    have l2 := wo_len s (ct t (t :: g))
    have c0 := ct_nn t g
    rw [if_neg (by omega)] at l2
    have := h.len
    have hl : 0 < s.length := by
      refine Nat.pos_of_ne_zero fun z => rk_one S (t :: g) ?_
      rw [← h.eq]
      exact cf_end (by omega)
    omega
theorem Sm.out {s S g : List Int} {t : Int} (h : Sm s S (t :: g)) (ht : t ∉ S) : Sm s S g := ⟨by rw [h.eq, rk_out g ht], h.len⟩
/-- the marks of the seats that are left -/
def Mrk (m S g : List Int) : Prop := ∀ x ∈ S, ∃ i : Nat, x = (i : Int) ∧ m[i]? = some (ct x g)
theorem Mrk.take {m S g : List Int} {x : Int} (h : Mrk m S g) : Mrk m (S.erase x) g := fun y hy => h y (List.mem_of_mem_erase hy)
theorem Mrk.out {m S g : List Int} {t : Int} (h : Mrk m S (t :: g)) (ht : t ∉ S) : Mrk m S g := fun y hy => by
  obtain ⟨i, e, q⟩ := h y hy
  rw [ct_ne g fun z : t = y => ht (z ▸ hy)] at q
  exact ⟨i, e, q⟩
theorem Mrk.turn {m S g : List Int} {i : Nat} (h : Mrk m S ((i : Int) :: g)) (hi : i < m.length) : Mrk (m.set i (ct (i : Int) ((i : Int) :: g) - 1)) S g := fun y hy => by
  obtain ⟨j, e, q⟩ := h y hy
  subst e
  refine ⟨j, rfl, ?_⟩
  by_cases c : j = i
  · subst c
    rw [List.getElem?_set_self hi, ct_same, Int.add_sub_cancel]
  · rw [List.getElem?_set_ne fun z => c z.symm, q, ct_ne g (by omega)]
theorem Mrk.init {n : Nat} (g : List Int) : Mrk (marks n g) (seats n) g := fun y hy => by
  obtain ⟨h0, h1⟩ := seats_mem.mp hy
  exact ⟨y.toNat, by omega, by rw [marks_get g (by omega)]; congr 2; omega⟩
theorem Sm.init {n : Nat} {g : List Int} (hn : n ≤ 63) : Sm (sm (marks n g)) (seats n) g := ⟨sm_rk g n, by have := sm_len (marks n g); rw [marks_len] at this; omega⟩
/-- the steps of seatF -/
theorem seatF_cons (S : List Int) (t : Int) (g : List Int) (n : Int) : seatF S (t :: g) n = (pick (chs S t g) n).1 :: seatF (S.erase (pick (chs S t g) n).1) g (pick (chs S t g) n).2 := rfl
theorem numF_cons (S : List Int) (t : Int) (g : List Int) (s : Int) (p : List Int) : numF S (t :: g) (s :: p) = ahead (chs S t g) s + numF (S.erase s) g p := rfl
/-- the walk to the place of a number -/
def pk : List (Int × Int) → Int → Nat
  | [], _ => 0
  | (_, m) :: l, n => if m ≤ n then pk l (n - m) + 1 else 0
def low' (l : List (Int × Int)) (i : Nat) : Int := tot (l.take i)
theorem pk_ok : ∀ {l : List (Int × Int)} {n : Int}, n < tot l → 0 ≤ n → (∀ q ∈ l, 0 ≤ q.2) → ∃ q, l[pk l n]? = some q ∧ q.1 = (pick l n).1 ∧ (pick l n).2 = n - low' l (pk l n) ∧ n - low' l (pk l n) < q.2 ∧
    ∀ i, i < pk l n → ∃ q', l[i]? = some q' ∧ q'.2 ≤ n - low' l i ∧ low' l (i + 1) = low' l i + q'.2
  | [], n, h, h0, _ => by have : n < 0 := h; omega
  | (s, m) :: l, n, h, h0, hp => by
    have h : n < m + tot l := h
    by_cases c : m ≤ n
    · obtain ⟨q, a, b, d, e, f⟩ := pk_ok (l := l) (n := n - m) (by omega) (by omega) fun q hq => hp q (List.mem_cons_of_mem _ hq)
      have ep : pk ((s, m) :: l) n = pk l (n - m) + 1 := by simp only [pk]; rw [if_pos c]
      have ek : pick ((s, m) :: l) n = pick l (n - m) := by simp only [pick]; rw [if_pos c]
      have el : ∀ i, low' ((s, m) :: l) (i + 1) = m + low' l i := fun i => rfl
      rw [ep, ek]
      refine ⟨q, a, b, by rw [el]; omega, by rw [el]; omega, fun i hi => ?_⟩
      cases i with
      | zero => exact ⟨(s, m), rfl, by show m ≤ n - 0; omega, by show m + 0 = 0 + m; omega⟩
      | succ i =>
        obtain ⟨q', a', b', c'⟩ := f i (by omega)
        exact ⟨q', a', by rw [el]; omega, by rw [el, el]; omega⟩
    · have ep : pk ((s, m) :: l) n = 0 := by simp only [pk]; rw [if_neg c]
      have ek : pick ((s, m) :: l) n = (s, n) := by simp only [pick]; rw [if_neg c]
      rw [ep, ek]
      exact ⟨(s, m), rfl, rfl, by show n = n - 0; omega, by show n - 0 < m; omega, fun i hi => absurd hi (Nat.not_lt_zero _)⟩
theorem ahead_sum : ∀ (l : List (Int × Int)) (s : Int), ((l.filter fun p => decide (p.1 < s)).map fun p => p.2).sum = ahead l s
  | [], _ => rfl
  | (x, m) :: l, s => by
    simp only [ahead]
    by_cases c : x < s
    · rw [List.filter_cons_of_pos (by simpa using c), if_pos c, List.map_cons, List.sum_cons, ahead_sum l s]
    · rw [List.filter_cons_of_neg (by simpa using c), if_neg c, ahead_sum l s, Int.zero_add]
theorem chs_len (S : List Int) (t : Int) (g : List Int) : (chs S t g).length ≤ S.length := by
  unfold chs
  rw [List.length_map]
  exact List.length_filter_le _ _
end OfM

set_option Elab.async false
set_option linter.all false
set_option maxRecDepth 100000
set_option maxHeartbeats 2000000
/-! OfEv: what readings evaluate to, over Evl: lists that are there or new, comprehensions, calls. -/
namespace OfE
open PySem L2 Evl

/-- a list item read, by values, for o[i] op= e -/
theorem get_list {X : Cx} : PGet X (rIxL X.K) := by
  intro pins s σ H o i ov iv Q I ro ri h
  obtain ⟨p, xs, k, z, rfl, rfl, hq, he, q⟩ := h
  cases ro
  obtain ⟨t, rfl⟩ := ri
  obtain ⟨its, r, pl, hz⟩ := I.list hq
  obtain ⟨j, h1, h2, h3, h4, h5⟩ := atI_get he
  obtain ⟨w, ew, rw'⟩ := r.get h2
  have hl := r.length
  have hn := line63
  have fin : EP X pins σ Q w s := ⟨z, H, I, rw', q⟩
  by_cases h0 : 0 ≤ k
  · have hj : k.toNat = j := by
      rw [seqIndex_of h0 h5] at h1
      exact Option.some.inj h1
    exact wpAny_getItem_list pl.isList h0 (by omega) (by rw [hj]; simpa using ew) fin
  · have hj : (k + (its.toArray.size : Int)).toNat = j := by
      rw [seqIndex_neg (by omega) h4] at h1
      rw [List.size_toArray, ← hl]
      exact Option.some.inj h1
    exact wpAny_getItem_list_neg pl.isList (by omega) (by rw [List.size_toArray] <;> omega) (by omega) (by rw [hj]; simpa using ew) fin

/-! ### rules whose readings name K itself (so that they stand in a comprehension's block, too) -/
def rLn (K : PySem.W.Frag) : List V → Hp → VK → Prop := fun xs H Q => ∃ p ys, xs = [.ref p] ∧ (SqL K H p ys ∨ SqT K H p ys) ∧ Q (.int (ys.length : Nat)) H
def rLs (K : PySem.W.Frag) : List V → Hp → VK → Prop := fun xs H Q => ∃ p ys, xs = [.ref p] ∧ (SqL K H p ys ∨ SqT K H p ys) ∧ ∀ l, H l = none → Q (.ref l) (upd H l (.lst ys))
def rTp (K : PySem.W.Frag) : List V → Hp → VK → Prop := fun xs H Q => ∃ p ys, xs = [.ref p] ∧ ((SqL K H p ys ∧ ∀ l, H l = none → Q (.ref l) (upd H l (.tup ys))) ∨ (SqT K H p ys ∧ Q (.ref p) H))
def rMx2 : List V → Hp → VK → Prop := fun xs H Q => ∃ i j, xs = [.int i, .int j] ∧ Q (.int (if j > i then j else i)) H
def rMn2 : List V → Hp → VK → Prop := fun xs H Q => ∃ i j, xs = [.int i, .int j] ∧ Q (.int (if j < i then j else i)) H
section
variable {X : Cx} (K : PySem.W.Frag)
theorem kLen (h : X.K = K := by rfl) : CallR X (.builtin "len") (rLn K) := by subst h; exact call_len_seq
theorem kList (h : X.K = K := by rfl) : CallR X (.type "list") (rLs K) := by subst h; exact call_list_of
theorem kTuple (h : X.K = K := by rfl) : CallR X (.type "tuple") (rTp K) := by subst h; exact call_tuple_of
theorem kIx (h : X.K = K := by rfl) : IxR X (rIxL K) := by subst h; exact ix_list
theorem kIxT (h : X.K = K := by rfl) : IxR X (rIxT K) := by subst h; exact ix_tup
theorem kIsi (h : X.K = K := by rfl) : CallR X (.builtin "isinstance") (rIsi K) := by subst h; exact call_isi
theorem kAll (h : X.K = K := by rfl) (hc : X.calm = true := by rfl) : CallR X (.builtin "all") (rAll K) := by subst h; exact cr_all hc
theorem kAny (h : X.K = K := by rfl) (hc : X.calm = true := by rfl) : CallR X (.builtin "any") (rAny K) := by subst h; exact cr_any hc
theorem kSum (h : X.K = K := by rfl) (hc : X.calm = true := by rfl) : CallR X (.builtin "sum") (rSum K) := by subst h; exact cr_sum hc
theorem kMin (h : X.K = K := by rfl) (hc : X.calm = true := by rfl) : CallR X (.builtin "min") (rMin K) := by subst h; exact cr_min hc
theorem kMax (h : X.K = K := by rfl) (hc : X.calm = true := by rfl) : CallR X (.builtin "max") (rMax K) := by subst h; exact cr_max hc
theorem kMax2 (hc : X.calm = true := by rfl) : CallR X (.builtin "max") rMx2 := call_max2 hc
theorem kMin2 (hc : X.calm = true := by rfl) : CallR X (.builtin "min") rMn2 := call_min2 hc
theorem kSorted (h : X.K = K := by rfl) : CallR X (.builtin "sorted") (rSortedI K) := by subst h; exact cr_sortedI
theorem kIn (h : X.K = K := by rfl) : OpR X (compareOp .In) (rIn K false) := by subst h; exact op_in_seq
theorem kNotIn (h : X.K = K := by rfl) : OpR X (compareOp .NotIn) (rIn K true) := by subst h; exact op_notIn_seq
theorem kEq (hu : X.A.units + 64 < cLine) (h : X.K = K := by rfl) : OpR X (compareOp .Eq) (rEqD K) := by subst h; exact op_eqD hu
theorem kNe (hu : X.A.units + 64 < cLine) (h : X.K = K := by rfl) : OpR X (compareOp .NotEq) (rNeD K) := by subst h; exact op_neD hu
theorem kSl (h : X.K = K := by rfl) : SlR X (rSlL K) := by subst h; exact sl_list
theorem kCnt (h : X.K = K := by rfl) : MtR X "list.count" (rCntI K) := by subst h; exact mt_lcount
theorem kGet (h : X.K = K := by rfl) : PGet X (rIxL K) := by subst h; exact get_list
theorem kRev {e : Expr} {te : TE} {k : Nat} {p1 p2 p3 pos : Pos} (he : PE X e te) (h : X.K = K := by rfl) : PE X (.Subscript e (.Slice none none (some (.UnaryOp .USub (.Constant (.int 1) k p1) p2)) p3) pos) (tRevL K te) := by
  subst h; exact pe_revL he
theorem kpList {tg l : Expr} {tl : TE} (hl : PE X l tl) (h : X.K = K := by rfl) : PI X tg l (iList K tl) := by subst h; exact pi_list hl
theorem kpTup {tg l : Expr} {tl : TE} (hl : PE X l tl) (h : X.K = K := by rfl) : PI X tg l (iTup K tl) := by subst h; exact pi_tup hl
theorem kpEnum {e : Expr} {ta : TA} {p pos tpos : Pos} {elts : List Expr} {kk : Nat} (hg : Gl X "enumerate") (hm : X.mg "enumerate" = none) (ha : PA X [e] ta) (h : X.K = K := by rfl) (hs : starEach [e] X.env = [(false, eval e X.env)] := by rfl) :
    PI X (.Tuple elts kk tpos) (.Call (.Name "enumerate" p) [e] [] pos) (iEnum K ta) := by subst h; exact pi_enum hg hm ha hs
theorem kpZip {e e2 : Expr} {ta : TA} {p pos tpos : Pos} {elts : List Expr} {kk : Nat} (hg : Gl X "zip") (hm : X.mg "zip" = none) (ha : PA X [e, e2] ta) (h : X.K = K := by rfl)
    (hs : starEach [e, e2] X.env = (false, eval e X.env) :: starEach [e2] X.env := by rfl) (hpl : (backTo pos (starEach [e2] X.env)).any (·.1) = false := by rfl) :
    PI X (.Tuple elts kk tpos) (.Call (.Name "zip" p) [e, e2] [] pos) (iZip K ta) := by subst h; exact pi_zip hg hm ha hs hpl
theorem kFld {e : Expr} {ta : TE} {f : Str} {pos : Pos} (he : PE X e ta) (h : X.K = K := by rfl) (hb : attributeBase e f X.env (eval e X.env) = eval e X.env := by rfl) : PE X (.Attribute e f pos) (tFld K ta f) := by
  subst h; exact pe_fld he hb
theorem kpsFld {o value : Expr} {ta tv : TE} {f : Str} {pos' pos : Pos} (ha : PE X o ta) (hv : PE X value tv) (h : X.K = K := by rfl) (hs : swapsWith value (some (.Attribute o f pos')) pos.line X.env = pure false := by rfl) :
    PS X (.Assign [.Attribute o f pos'] value pos) (sFld K ta tv f) := by subst h; exact ps_fld ha hv hs
theorem kgTup {es : List Expr} {k : Nat} {t : TGs} {n : Nat} {pos : Pos} (h' : PGs X es t) (h : X.K = K := by rfl) (hc : X.calm = true := by rfl)
    (hn : (assignEach es X.env).length = n := by rfl) (hst : (assignEach es X.env).findIdx? (·.1) = none := by rfl) : PG X (.Tuple es k pos) (gTup K n t) := by subst h; exact pg_tup hc h' hn hst
theorem kBm0 {o : Expr} {to : TE} {name : Str} {apos cpos : Pos} {T id : String} {r : V → List V → Hp → VK → Prop} (pa : PlainAttrs T) (slot : Slot T name id) (hty : typeOf (.builtin id) = pure (.type "method_descriptor")) (hm : MtR X id r) (ho : PE X o to) (h : X.K = K := by rfl)
    (hbase : attributeBase o name X.env (eval o X.env) = eval o X.env := by rfl) (hline : (apos.endLine == cpos.line) = true := by rfl) : PE X (.Call (.Attribute o name apos) [] [] cpos) (tBM0 K T r to) := by
  subst h; exact pe_bm0 pa slot hty hm ho hbase hline
theorem kBm {o e : Expr} {es : List Expr} {to : TE} {t : TA} {name : Str} {apos cpos : Pos} {T id : String} {r : V → List V → Hp → VK → Prop} (pa : PlainAttrs T) (slot : Slot T name id) (hty : typeOf (.builtin id) = pure (.type "method_descriptor")) (hm : MtR X id r) (ho : PE X o to) (ha : PA X (e :: es) t)
    (h : X.K = K := by rfl) (hbase : attributeBase o name X.env (eval o X.env) = eval o X.env := by rfl)
    (hfew : ((backTo cpos (starEach (e :: es) X.env)).all (fun x => !x.1) && (backToKw cpos (keywordEach [] X.env)).all (fun x => x.1.isSome)
      && decide ((e :: es).length + ([] : List Keyword).length + (if ([] : List Keyword).isEmpty then 0 else 1) < 30)) = true := by rfl)
    (hline : (apos.endLine == cpos.line) = true := by rfl) (hs : starEach (e :: es) X.env = (false, eval e X.env) :: starEach es X.env := by rfl) (hplain : (backTo cpos (starEach es X.env)).any (·.1) = false := by rfl) :
    PE X (.Call (.Attribute o name apos) (e :: es) [] cpos) (tBM K T r to t) := by subst h; exact pe_bm pa slot hty hm ho ha hbase hfew hline hs hplain
end

/-- a def of the module as its callers see it -/
structure Df (P : Program) (w : World) (K : PySem.W.Frag) (mg : Str → Option Value) (base : Heap) (CX : CXT) (k : Nat) (x : Str) (f : Addr) (fd : FuncData) (ps : List Str) (sp : Sp) : Prop where
  ok : FnOk P w K mg base CX k f fd ps sp
  g : mg x = some (.ref f)
  kp : PySem.W.keepIn K (.ref f) = true
  b : Binds K fd ps []
/-- the built-ins are the built-ins -/
structure Bi (mg : Str → Option Value) : Prop where
  len : mg "len" = none
  range : mg "range" = none
  list : mg "list" = none
  isinstance : mg "isinstance" = none
  int : mg "int" = none
  bool : mg "bool" = none
  all : mg "all" = none
  any : mg "any" = none
  sum : mg "sum" = none
  min : mg "min" = none
  max : mg "max" = none
  sorted : mg "sorted" = none
  enumerate : mg "enumerate" = none
  zip : mg "zip" = none
  reversed : mg "reversed" = none
  tuple : mg "tuple" = none

theorem exAt {H H2 : Hp} {p : Addr} {o : HO} (e : Ex H H2) (h : H p = some o) : H2 p = some o := e p o h
theorem sz100 {n : Nat} (h : n ≤ 100000) : n ≤ sizeLine := sz_of h
theorem ints_len (ns : List Int) : (ns.map V.int).length = ns.length := List.length_map _
theorem ints_inj : ∀ {a b : List Int}, a.map V.int = b.map V.int → a = b
  | [], [], _ => rfl
  | [], _ :: _, h => nomatch h
  | _ :: _, [], h => nomatch h
  | x :: a, y :: b, h => by
    rw [List.map_cons, List.map_cons] at h
    injection h with h1 h2
    injection h1 with h1
    rw [h1, ints_inj h2]
theorem at_int {ns : List Int} {i : Int} {j : Nat} {n : Int} (e : i = (j : Int)) (h : ns[j]? = some n) : atI (ns.map V.int) i = some (V.int n) := by
  rw [e]
  exact atI_nat (by rw [List.getElem?_map, h]; rfl)
theorem at_last {ns : List Int} {n : Int} (h : ns.getLast? = some n) : atI (ns.map V.int) (-1) = some (V.int n) := by
  obtain ⟨ys, e⟩ := List.getLast?_eq_some_iff.mp h
  rw [e, List.map_append]
  exact atI_last _ _
theorem all_flat : ∀ ns : List Int, (ns.map V.int).all flatV = true
  | [] => rfl
  | n :: ns => by
    rw [List.map_cons, List.all_cons, all_flat ns]
    rfl
theorem in_ints (k : Int) : ∀ ns : List Int, inV (.int k) (ns.map V.int) = decide (k ∈ ns)
  | [] => rfl
  | n :: ns => by
    have ih := in_ints k ns
    unfold inV at ih ⊢
    rw [List.map_cons, List.any_cons, ih]
    have e : eqV (V.int n) (V.int k) = (n == k) := rfl
    rw [e]
    by_cases h : n = k
    · subst h
      simp
    · have h' : ¬ k = n := fun q => h q.symm
      simp [h, h']

section
variable {K : PySem.W.Frag} {σ : L2.St} {H H' : Hp} {ta tb tc te tl : TE} {t u : TT} {x y z v : V} {r : R2} {xs ys : List V}

/-! ### lists that are there, or new -/
def EvS (te : TE) (σ : L2.St) (H : Hp) (xs : List V) : Prop := ∀ H1, Ex H H1 → ∀ Q : VK, (∀ p H2, Ex H1 H2 → H2 p = some (.lst xs) → Q (.ref p) H2) → te σ H1 Q
/-- .. to be read -/
def EvR (K : PySem.W.Frag) (te : TE) (σ : L2.St) (H : Hp) (xs : List V) : Prop := ∀ H1, Ex H H1 → ∀ Q : VK, (∀ p H2, Ex H1 H2 → SqL K H2 p xs → Q (.ref p) H2) → te σ H1 Q
theorem es_new (h : EvL te σ H xs) : EvS te σ H xs := fun H1 e Q q => h H1 e Q fun p H2 _ e2 h2 => q p H2 e2 h2
theorem es_at {p : Addr} (h : Ev te σ H (.ref p)) (hp : H p = some (.lst xs)) : EvS te σ H xs := fun H1 e Q q => h H1 e Q fun H2 e2 => q p H2 e2 (e2 p _ (e p _ hp))
theorem es_var {i : Nat} {p : Addr} (h : σ[i]? = some (some (.ref p))) (hp : H p = some (.lst xs)) : EvS (tVar i) σ H xs := es_at (ev_var h) hp
theorem er_of (h : EvS te σ H xs) : EvR K te σ H xs := fun H1 e Q q => h H1 e Q fun p H2 e2 h2 => q p H2 e2 (sq_of h2)
theorem er_at {p : Addr} (h : Ev te σ H (.ref p)) (hp : SqL K H p xs) : EvR K te σ H xs := fun H1 e Q q => h H1 e Q fun H2 e2 => q p H2 e2 (ex_l (e.trans e2) hp)
theorem er_var {i : Nat} {p : Addr} (h : σ[i]? = some (some (.ref p))) (hp : SqL K H p xs) : EvR K (tVar i) σ H xs := er_at (ev_var h) hp
theorem EvS.mono (e : Ex H H') (h : EvS te σ H xs) : EvS te σ H' xs := fun H1 a Q q => h H1 (e.trans a) Q q
theorem EvR.mono (e : Ex H H') (h : EvR K te σ H xs) : EvR K te σ H' xs := fun H1 a Q q => h H1 (e.trans a) Q q
theorem er_is (h : EvR K te σ H xs) (e : xs = ys) : EvR K te σ H ys := e ▸ h
theorem es_is (h : EvS te σ H xs) (e : xs = ys) : EvS te σ H ys := e ▸ h
theorem el_is (h : EvL te σ H xs) (e : xs = ys) : EvL te σ H ys := e ▸ h

theorem el_cat (ha : EvS ta σ H xs) (hb : EvS tb σ H ys) (hl : xs.length + ys.length ≤ 100000) : EvL (tOp rCat ta tb) σ H (xs ++ ys) := fun H1 e Q q =>
  ha H1 e _ fun p H2 e2 hp => hb H2 (e.trans e2) _ fun p2 H3 e3 hp2 => ⟨p, p2, xs, ys, rfl, rfl, e3 p _ hp, hp2, sz_of hl, fun l hn => q l _ (fresh_back (e2.trans e3) hn) ((e2.trans e3).trans (Ex.new hn)) upd_same⟩
theorem rep_flat (x : V) (k : Nat) : (List.replicate k [x]).flatten = List.replicate k x := by
  induction k with
  | zero => rfl
  | succ k ih => rw [List.replicate_succ, List.flatten_cons, ih]; rfl
theorem el_rep {k : Int} (ha : EvS ta σ H [x]) (hb : Ev tb σ H (.int k)) (h0 : -100000 ≤ k) (hk : k ≤ 100000) : EvL (tOp rRep ta tb) σ H (List.replicate k.toNat x) := fun H1 e Q q =>
  ha H1 e _ fun p H2 e2 hp => hb H2 (e.trans e2) _ fun H3 e3 => ⟨p, k, [x], rfl, rfl, e3 p _ hp, by omega, by omega, sz_of (by show 1 * k.toNat ≤ 100000; omega), fun l hn => by
    rw [rep_flat]
    exact q l _ (fresh_back (e2.trans e3) hn) ((e2.trans e3).trans (Ex.new hn)) upd_same⟩
theorem el_sli {tl th : TO} {lo hi : Option Int} (h : EvR K te σ H xs) (h1 : EvO tl σ H lo) (h2 : EvO th σ H hi) : EvL (tSl (rSlL K) te tl th) σ H (cutV xs lo hi) := fun H1 e _ q =>
  h H1 e _ fun a H2 e2 ha => h1 H2 (e.trans e2) _ fun H3 e3 => h2 H3 ((e.trans e2).trans e3) _ fun H4 e4 =>
    ⟨a, xs, rfl, ex_l (e3.trans e4) ha, fun p hp => q p _ (fresh_back ((e2.trans e3).trans e4) hp) (((e2.trans e3).trans e4).trans (Ex.new hp)) upd_same⟩
theorem el_of (ha : EvR K ta σ H xs) : EvL (tCB (rLs K) (tCons ta tNil)) σ H xs := fun H1 e Q q =>
  ha H1 e _ fun p H2 e2 hp => ⟨p, xs, rfl, Or.inl hp, fun l hl => q l _ (fresh_back e2 hl) (e2.trans (Ex.new hl)) upd_same⟩
theorem el_rev (ha : EvR K te σ H xs) : EvL (tRevL K te) σ H xs.reverse := fun H1 e Q q =>
  ha H1 e _ fun p H2 e2 hp => ⟨p, xs, rfl, hp, fun l hl => q l _ (fresh_back e2 hl) (e2.trans (Ex.new hl)) upd_same⟩
theorem el_rg {n : Int} (ha : Ev ta σ H (.int n)) (h0 : 0 ≤ n) (hn : n ≤ 100000) : EvL (tLstRg (tRg1 ta)) σ H (rgV 0 n) := fun H1 e Q q =>
  ha H1 e _ fun H2 e2 => ⟨n, rfl, RgOk.of_le (by omega) (by omega) (by omega) h0, fun l hl => q l _ (fresh_back e2 hl) (e2.trans (Ex.new hl)) upd_same⟩
theorem rg_ints (n : Nat) : rgV 0 (n : Int) = ((List.range n).map fun i : Nat => (i : Int)).map V.int := by
  unfold rgV
  rw [List.map_map]
  have e : ((n : Int) - 0).toNat = n := by omega
  rw [e]
  refine List.map_congr_left fun i _ => ?_
  show V.int (0 + (i : Int)) = V.int (i : Int)
  rw [Int.zero_add]
theorem ev_ixR {i : Int} (ha : EvR K ta σ H xs) (hb : Ev tb σ H (.int i)) (h : atI xs i = some v) : Ev (tOp (rIxL K) ta tb) σ H v := fun H1 e Q q =>
  ha H1 e _ fun p H2 e2 hp => hb H2 (e.trans e2) _ fun H3 e3 => ⟨p, xs, i, v, rfl, rfl, ex_l e3 hp, h, q H3 (e2.trans e3)⟩
theorem ev_ixU {i : Int} (ha : EvU ta σ H xs) (hb : Ev tb σ H (.int i)) (h : atI xs i = some v) : Ev (tOp (rIxT K) ta tb) σ H v := fun H1 e Q q =>
  ha H1 e _ fun p H2 _ e2 hp => hb H2 (e.trans e2) _ fun H3 e3 => ⟨p, xs, i, v, rfl, rfl, st_of (e3 p _ hp), h, q H3 (e2.trans e3)⟩
theorem ev_ixTv {i : Nat} {j : Int} {p : Addr} (h1 : σ[i]? = some (some (.ref p))) (hp : H p = some (.tup xs)) (hb : Ev tb σ H (.int j)) (h : atI xs j = some v) : Ev (tOp (rIxT K) (tVar i) tb) σ H v := fun H1 e Q q =>
  ⟨_, h1, hb H1 e _ fun H2 e2 => ⟨p, xs, j, v, rfl, rfl, st_of (e2 p _ (e p _ hp)), h, q H2 e2⟩⟩
theorem ev_lenR (ha : EvR K ta σ H xs) : Ev (tCB (rLn K) (tCons ta tNil)) σ H (.int (xs.length : Int)) := fun H1 e Q q =>
  ha H1 e _ fun p H2 e2 hp => ⟨p, xs, rfl, Or.inl hp, q H2 e2⟩
theorem ev_allR {bs : List Bool} (ha : EvR K ta σ H (bs.map V.bl)) : Ev (tCB (rAll K) (tCons ta tNil)) σ H (.bl (bs.all id)) := fun H1 e Q q =>
  ha H1 e _ fun p H2 e2 hp => ⟨p, bs, rfl, hp, q H2 e2⟩
theorem ev_anyR {bs : List Bool} (ha : EvR K ta σ H (bs.map V.bl)) : Ev (tCB (rAny K) (tCons ta tNil)) σ H (.bl (bs.any id)) := fun H1 e Q q =>
  ha H1 e _ fun p H2 e2 hp => ⟨p, bs, rfl, hp, q H2 e2⟩
theorem ev_sumR {ns : List Int} (ha : EvR K ta σ H (ns.map V.int)) : Ev (tCB (rSum K) (tCons ta tNil)) σ H (.int ns.sum) := fun H1 e Q q =>
  ha H1 e _ fun p H2 e2 hp => ⟨p, ns, rfl, hp, q H2 e2⟩
theorem ev_minR {ns : List Int} {m : Int} (ha : EvR K ta σ H (ns.map V.int)) (h0 : m ∈ ns) (hm : ∀ y ∈ ns, m ≤ y) : Ev (tCB (rMin K) (tCons ta tNil)) σ H (.int m) := fun H1 e Q q =>
  ha H1 e _ fun p H2 e2 hp => ⟨p, ns, rfl, hp, by cases ns with | nil => exact nomatch h0 | cons a l => exact Nat.succ_pos _, fun k hk hle => by
    have e1 : k = m := by
      have a := hle m h0
      have b := hm k hk
      omega
    subst e1
    exact q H2 e2⟩
theorem ev_mx2 {i j : Int} (ha : Ev ta σ H (.int i)) (hb : Ev tb σ H (.int j)) : Ev (tCB rMx2 (tCons ta (tCons tb tNil))) σ H (.int (if j > i then j else i)) := fun H1 e Q q =>
  ha H1 e _ fun H2 e2 => hb H2 (e.trans e2) _ fun H3 e3 => ⟨i, j, rfl, q H3 (e2.trans e3)⟩
theorem ev_mn2 {i j : Int} (ha : Ev ta σ H (.int i)) (hb : Ev tb σ H (.int j)) : Ev (tCB rMn2 (tCons ta (tCons tb tNil))) σ H (.int (if j < i then j else i)) := fun H1 e Q q =>
  ha H1 e _ fun H2 e2 => hb H2 (e.trans e2) _ fun H3 e3 => ⟨i, j, rfl, q H3 (e2.trans e3)⟩
theorem ev_cnt {ns : List Int} {k : Int} (ha : EvR K ta σ H (ns.map V.int)) (hb : Ev tb σ H (.int k)) : Ev (tBM K "list" (rCntI K) ta (tCons tb tNil)) σ H (.int (ns.count k)) := fun H1 e Q q =>
  ha H1 e _ fun p H2 e2 hp => ⟨Or.inl ⟨rfl, _, hp⟩, hb H2 (e.trans e2) _ fun H3 e3 => ⟨p, ns, k, rfl, rfl, ex_l e3 hp, q H3 (e2.trans e3)⟩⟩

/-! ### two lists of ints compared -/
theorem dp_ints (K : PySem.W.Frag) (H : Hp) : ∀ ns : List Int, DpAll K H (ns.map V.int) (ns.map PyData.int)
  | [] => .nil
  | n :: ns => .cons (.int n) (dp_ints K H ns)
theorem lay_ints : ∀ ns : List Int, PyData.canLayAll0 (ns.map PyData.int) = true
  | [] => by simp [PyData.canLayAll0]
  | n :: ns => by simp [PyData.canLayAll0, PyData.canLay0, lay_ints ns]
theorem depth_ints : ∀ ns : List Int, PyData.depthAll (ns.map PyData.int) ≤ 2
  | [] => by simp [PyData.depthAll]
  | n :: ns => by
    have h := depth_ints ns
    simp only [List.map_cons, PyData.depthAll, PyData.depth]
    omega
theorem shaped_ints (ns : List Int) : SeqAt.shaped (.list (ns.map PyData.int)) = true := by
  have h1 := depth_ints ns
  have h2 : PyData.depth (.list (ns.map PyData.int)) ≤ 64 := by
    simp only [PyData.depth]
    omega
  show (PyData.canLay0 (.list (ns.map PyData.int)) && decide (PyData.depth (.list (ns.map PyData.int)) ≤ 64)) = true
  rw [Bool.and_eq_true]
  exact ⟨by simp only [PyData.canLay0]; exact lay_ints ns, decide_eq_true h2⟩
theorem eqv_all : ∀ a b : List Int, PyData.eqvAll (a.map PyData.int) (b.map PyData.int) = decide (a = b)
  | [], [] => by simp [PyData.eqvAll]
  | [], _ :: _ => by simp [PyData.eqvAll]
  | _ :: _, [] => by simp [PyData.eqvAll]
  | x :: a, y :: b => by
    simp only [List.map_cons, PyData.eqvAll, PyData.eqv, eqv_all a b]
    by_cases hx : x = y
    · subst hx
      simp
    · simp [hx]
theorem eqv_ints (a b : List Int) : PyData.eqv (.list (a.map PyData.int)) (.list (b.map PyData.int)) = decide (a = b) := by
  simp only [PyData.eqv]
  exact eqv_all a b
theorem ev_eqL {a b : List Int} (ha : EvR K ta σ H (a.map V.int)) (hb : EvR K tb σ H (b.map V.int)) : Ev (tOp (rEqD K) ta tb) σ H (.bl (decide (a = b))) := fun H1 e Q q =>
  ha H1 e _ fun p H2 e2 hp => hb H2 (e.trans e2) _ fun p2 H3 e3 hp2 => ⟨_, _, .lst (ex_l e3 hp) (dp_ints K H3 a), .lst hp2 (dp_ints K H3 b), shaped_ints a, shaped_ints b, by
    rw [eqv_ints]
    exact q H3 (e2.trans e3)⟩
theorem ev_neL {a b : List Int} (ha : EvR K ta σ H (a.map V.int)) (hb : EvR K tb σ H (b.map V.int)) : Ev (tOp (rNeD K) ta tb) σ H (.bl (!decide (a = b))) := fun H1 e Q q =>
  ha H1 e _ fun p H2 e2 hp => hb H2 (e.trans e2) _ fun p2 H3 e3 hp2 => ⟨_, _, .lst (ex_l e3 hp) (dp_ints K H3 a), .lst hp2 (dp_ints K H3 b), shaped_ints a, shaped_ints b, by
    rw [eqv_ints]
    exact q H3 (e2.trans e3)⟩

/-! ### ints -/
theorem ev_I0 {g : Int → Int → V} {i j : Int} (ha : Ev ta σ H (.int i)) (hb : Ev tb σ H (.int j)) : Ev (tOp (rI0 g) ta tb) σ H (g i j) := ev_op ha hb rv_I0
theorem ev_U_neg {i : Int} (ha : Ev ta σ H (.int i)) : Ev (tUn (rU fun i => .int (-i)) ta) σ H (.int (-i)) := fun H1 e Q q => ha H1 e _ fun H2 e2 => ⟨i, rfl, q H2 e2⟩
theorem ev_I {C : Int → Int → Prop} {g : Int → Int → V} {i j : Int} (ha : Ev ta σ H (.int i)) (hb : Ev tb σ H (.int j)) (hc : C i j) : Ev (tOp (rI C g) ta tb) σ H (g i j) := ev_op ha hb (rv_I hc)
theorem ev_U {g : Int → V} {i : Int} (ha : Ev ta σ H (.int i)) : Ev (tUn (rU g) ta) σ H (g i) := fun H1 e Q q => ha H1 e _ fun H2 e2 => ⟨i, rfl, q H2 e2⟩
theorem ev_eqI {i j : Int} (ha : Ev ta σ H (.int i)) (hb : Ev tb σ H (.int j)) : Ev (tOp rEq ta tb) σ H (.bl (decide (i = j))) := ev_is (ev_op ha hb (rv_eq rfl)) (by
  by_cases h : i = j
  · subst h; simp
  · have h' : ¬ V.int i = V.int j := fun q => by injection q with q; exact h q
    rw [decide_eq_false h, decide_eq_false h'])
theorem ev_neI {i j : Int} (ha : Ev ta σ H (.int i)) (hb : Ev tb σ H (.int j)) : Ev (tOp rNe ta tb) σ H (.bl (!decide (i = j))) := ev_is (ev_op ha hb (rv_ne rfl)) (by
  by_cases h : i = j
  · subst h; simp
  · have h' : ¬ V.int i = V.int j := fun q => by injection q with q; exact h q
    rw [decide_eq_false h, decide_eq_false h'])
theorem ev_chain {p q : Int → Int → Bool} {i j k : Int} (ha : Ev ta σ H (.int i)) (hb : Ev tb σ H (.int j)) (hc : Ev tc σ H (.int k)) :
    Ev (tChain (rI0 fun i j => .bl (p i j)) (rI0 fun i j => .bl (q i j)) ta tb tc) σ H (.bl (p i j && q j k)) := fun H1 e Q h =>
  ha H1 e _ fun H2 e2 => hb H2 (e.trans e2) _ fun H3 e3 => ⟨i, j, rfl, rfl, p i j, rfl, by
    cases hp : p i j with
    | true =>
      show tc σ H3 _
      refine hc H3 ((e.trans e2).trans e3) _ fun H4 e4 => ⟨j, k, rfl, rfl, ?_⟩
      rw [hp] at h
      exact h H4 ((e2.trans e3).trans e4)
    | false =>
      show Q (.bl false) H3
      rw [hp] at h
      exact h H3 (e2.trans e3)⟩
theorem et_cmp {b : Bool} (h : Ev te σ H (.bl b)) : EvT (tTest te) σ H b := et_test h
/-- isinstance of a plain value -/
theorem ev_isi {c u : Value} {cv : V} {b : Bool} (ha : Ev ta σ H x) (hb : Ev tb σ H cv) (hc : ClsV cv u) (ht : ∀ H1, Ex H H1 → TyX K H1 x c) (hk : PySem.W.kitOne K c u = some b) : Ev (tCB (rIsi K) (tCons ta (tCons tb tNil))) σ H (.bl b) := fun H1 e Q q =>
  ha H1 e _ fun H2 e2 => hb H2 (e.trans e2) _ fun H3 e3 => ⟨x, cv, c, u, b, rfl, hc, ht H3 ((e.trans e2).trans e3), hk, q H3 (e2.trans e3)⟩
theorem ev_isiR {u : Value} {cv : V} {b : Bool} (ha : EvS ta σ H xs) (hb : Ev tb σ H cv) (hc : ClsV cv u) (hk : PySem.W.kitOne K (.type "list") u = some b) : Ev (tCB (rIsi K) (tCons ta (tCons tb tNil))) σ H (.bl b) := fun H1 e Q q =>
  ha H1 e _ fun p H2 e2 hp => hb H2 (e.trans e2) _ fun H3 e3 => ⟨.ref p, cv, _, u, b, rfl, hc, .base (.lst (e3 p _ hp)), hk, q H3 (e2.trans e3)⟩

/-! ### comprehensions -/
/-- the turns' results so far, at a new list -/
def Cl (H : Hp) (f : Nat → List V) (Dl : Addr) (i : Nat) (H' : Hp) : Prop := H Dl = none ∧ Ex H H' ∧ H' Dl = some (.lst (f i))
theorem cl_turn {f : Nat → List V} {Dl : Addr} {i : Nat} {σ2 : L2.St} {b : Bool} {H0 : Hp} (p : Cl H f Dl i H') (e0 : Ex H' H0) (hz : (f i).length < 100000) (ht : EvT t σ2 H0 b) (he : b = true → Ev te σ2 H0 v) (hf : f (i + 1) = if b = true then f i ++ [v] else f i) :
    t σ2 H0 fun b H3 => if b = true then te σ2 H3 fun y H4 => ∃ acc, H4 Dl = some (.lst acc) ∧ acc.length < sizeLine ∧ Cl H f Dl (i + 1) (upd H4 Dl (.lst (acc ++ [y]))) else Cl H f Dl (i + 1) H3 := by
  obtain ⟨p1, p2, p3⟩ := p
  refine ht H0 (Ex.refl _) _ fun H3 e3 => ?_
  cases hb : b with
  | true =>
    show te σ2 H3 fun y H4 => ∃ acc, H4 Dl = some (.lst acc) ∧ acc.length < sizeLine ∧ Cl H f Dl (i + 1) (upd H4 Dl (.lst (acc ++ [y])))
    refine he hb H3 e3 _ fun H4 e4 => ⟨f i, e4 Dl _ (e3 Dl _ (e0 Dl _ p3)), sz_lt hz, p1, Ex.mut (((p2.trans e0).trans e3).trans e4) p1, ?_⟩
    rw [hf, hb, if_pos rfl]
    exact upd_same
  | false =>
    show Cl H f Dl (i + 1) H3
    refine ⟨p1, (p2.trans e0).trans e3, ?_⟩
    rw [hf, hb, if_neg Bool.false_ne_true]
    exact e3 Dl _ (e0 Dl _ p3)
theorem et_yes : EvT tYes σ H true := fun H1 _ _ q => q H1 (Ex.refl H1)
/-- what the first i items give -/
def gv {α : Type} (c : α → Bool) (g : α → V) (xs : List α) (i : Nat) : List V := ((xs.take i).filter c).map g
theorem gv_step {α : Type} {c : α → Bool} {g : α → V} {xs : List α} {i : Nat} {a : α} (h : xs[i]? = some a) : gv c g xs (i + 1) = if c a = true then gv c g xs i ++ [g a] else gv c g xs i := by
  unfold gv
  rw [List.take_add_one, h]
  simp only [Option.toList, List.filter_append, List.map_append]
  by_cases hc : c a = true
  · rw [if_pos hc, List.filter_cons, if_pos hc]; rfl
  · rw [if_neg hc, List.filter_cons, if_neg hc]; simp
theorem gv_len {α : Type} (c : α → Bool) (g : α → V) (xs : List α) (i : Nat) : (gv c g xs i).length ≤ xs.length := by
  unfold gv
  rw [List.length_map]
  exact Nat.le_trans (List.length_filter_le _ _) (List.length_take_le' _ _)
theorem gv_all {α : Type} (c : α → Bool) (g : α → V) (xs : List α) : gv c g xs xs.length = (xs.filter c).map g := by
  unfold gv
  rw [List.take_length]
/-- over a list of ints -/
theorem el_lcI {ns : List Int} {j : Nat} {vs : List Nat} (c : Int → Bool) (g : Int → V) (h : EvR K tl σ H (ns.map V.int)) (hz : ns.length ≤ 40000) (hw : ∀ x, wipe ((wipe σ vs).set j (some x)) vs = wipe σ vs)
    (ht : ∀ n H1, n ∈ ns → Ex H H1 → EvT t ((wipe σ vs).set j (some (.int n))) H1 (c n)) (he : ∀ n H1, n ∈ ns → c n = true → Ex H H1 → Ev te ((wipe σ vs).set j (some (.int n))) H1 (g n)) :
    EvL (tLc (iList K tl) (gName j) t te vs) σ H ((ns.filter c).map g) := fun H0 e Q q => h H0 e _ fun a H1 e1 ha => ⟨a, rfl, ⟨_, ha⟩, fun Dl hD =>
  lc_list (xs := ns.map V.int) (Cl H1 (gv c g ns) Dl) ⟨hD, Ex.new hD, upd_same⟩ (fun i H' _ p => ex_l p.2.1 ha) (fun i x H' hi p => by
    rw [List.getElem?_map] at hi
    obtain ⟨n, hn, rfl⟩ : ∃ n, ns[i]? = some n ∧ x = V.int n := by
      cases e : ns[i]? with
      | none => rw [e] at hi; cases hi
      | some n => rw [e] at hi; exact ⟨n, rfl, (Option.some.inj hi).symm⟩
    have hm : n ∈ ns := List.mem_of_getElem? hn
    exact ⟨hw _, cl_turn p (Ex.refl _) (by have := gv_len c g ns i; omega) (ht n H' hm ((e.trans e1).trans p.2.1)) (fun hc => he n H' hm hc ((e.trans e1).trans p.2.1)) (gv_step hn)⟩)
    (fun H' p => q Dl H' (fresh_back e1 p.1) (e1.trans p.2.1) (by rw [← gv_all, ← ints_len ns]; exact p.2.2))⟩
/-- over a range -/
theorem el_lcRg {n : Int} {ta : TA} {j : Nat} {vs : List Nat} (c : Nat → Bool) (g : Nat → V) (h : EvA ta σ H [.int n]) (h0 : 0 ≤ n) (hn : n ≤ 40000) (hw : ∀ x, wipe ((wipe σ vs).set j (some x)) vs = wipe σ vs)
    (ht : ∀ (i : Nat) H1, (i : Int) < n → Ex H H1 → EvT t ((wipe σ vs).set j (some (.int (i : Int)))) H1 (c i)) (he : ∀ (i : Nat) H1, (i : Int) < n → c i = true → Ex H H1 → Ev te ((wipe σ vs).set j (some (.int (i : Int)))) H1 (g i)) :
    EvL (tLc (iRng1 ta) (gName j) t te vs) σ H (((List.range n.toNat).filter c).map g) := fun H0 e Q q => h H0 e _ fun H1 e1 => ⟨n, rfl, by omega, by omega, fun Dl hD =>
  lc_range (lo := 0) (n := n.toNat) (Cl H1 (gv c g (List.range n.toNat)) Dl) ⟨hD, Ex.new hD, upd_same⟩ (fun i H' hi p => by
    have e0 : (0 : Int) + (i : Int) = (i : Int) := Int.zero_add _
    rw [e0]
    exact ⟨hw _, cl_turn p (Ex.refl _) (by have := gv_len c g (List.range n.toNat) i; rw [List.length_range] at this; omega) (ht i H' (by omega) ((e.trans e1).trans p.2.1)) (fun hc => he i H' (by omega) hc ((e.trans e1).trans p.2.1)) (gv_step (by rw [List.getElem?_range hi]))⟩) (fun H' p => q Dl H' (fresh_back e1 p.1) (e1.trans p.2.1) (by have z := p.2.2; have w := gv_all c g (List.range n.toNat); rw [List.length_range] at w; rw [w] at z; exact z))⟩
/-- over enumerate(a list of ints): the pairs (i, n) -/
def prs (ns : List Int) : List (Nat × Int) := (List.range ns.length).map fun i => (i, ns.getD i 0)
theorem prs_get {ns : List Int} {i : Nat} {n : Int} (h : ns[i]? = some n) : (prs ns)[i]? = some (i, n) := by
  have hi := (List.getElem?_eq_some_iff.mp h).1
  unfold prs
  rw [List.getElem?_map, List.getElem?_range hi]
  show some (i, ns.getD i 0) = some (i, n)
  rw [List.getD_eq_getElem?_getD, h]
  rfl
theorem prs_len (ns : List Int) : (prs ns).length = ns.length := by
  unfold prs
  rw [List.length_map, List.length_range]
theorem el_lcEn {ns : List Int} {ta : TE} {j k : Nat} {vs : List Nat} (c : Nat × Int → Bool) (g : Nat × Int → V) (h : EvR K ta σ H (ns.map V.int)) (hz : ns.length ≤ 40000) (hw : ∀ x y, wipe (((wipe σ vs).set j (some x)).set k (some y)) vs = wipe σ vs)
    (ht : ∀ (i : Nat) n H1, ns[i]? = some n → Ex H H1 → EvT t (((wipe σ vs).set j (some (.int (i : Int)))).set k (some (.int n))) H1 (c (i, n))) (he : ∀ (i : Nat) n H1, ns[i]? = some n → c (i, n) = true → Ex H H1 → Ev te (((wipe σ vs).set j (some (.int (i : Int)))).set k (some (.int n))) H1 (g (i, n))) :
    EvL (tLc (iEnum K (tCons ta tNil)) (gTup K 2 (gCons (gName j) (gCons (gName k) gNil))) t te vs) σ H (((prs ns).filter c).map g) := fun H0 e Q q => h H0 e _ fun a H1 e1 ha => ⟨a, _, rfl, ha, fun Dl hD => by
  refine ⟨fun i m H' => m = ns.length - i ∧ i ≤ ns.length ∧ Cl H1 (gv c g (prs ns)) Dl i H', ⟨ns.length, by simp, Nat.zero_le _, hD, Ex.new hD, upd_same⟩, ?_⟩
  rintro i m H' ⟨rfl, hi, p⟩
  have ha' : SqL K H' a (ns.map V.int) := ex_l p.2.1 ha
  by_cases hlt : i < ns.length
  · refine .inr ⟨⟨_, V.int ns[i], ha', by rw [List.getElem?_map, List.getElem?_eq_getElem hlt]; rfl⟩, Cl H1 (gv c g (prs ns)) Dl (i + 1), fun H2 p2 => ⟨ns.length - (i + 1), by omega, rfl, hlt, p2⟩, ?_⟩
    rintro x H2 ⟨T, y, rfl, hT, rfl, hy⟩
    have hg : ns[i]? = some ns[i] := List.getElem?_eq_getElem hlt
    have ey : y = V.int ns[i] := by
      have z := hy _ ha'
      rw [List.getElem?_map, hg] at z
      exact (Option.some.inj z).symm
    subst ey
    have eT : Ex H' (upd H' T (.tup [.int (i : Int), .int ns[i]])) := Ex.new hT
    refine ⟨T, _, rfl, st_of upd_same, rfl, _, _, rfl, _, _, rfl, rfl, hw _ _, ?_⟩
    exact cl_turn p eT (by have := gv_len c g (prs ns) i; rw [prs_len] at this; omega) (ht i _ _ hg (((e.trans e1).trans p.2.1).trans eT)) (fun hc => he i _ _ hg hc (((e.trans e1).trans p.2.1).trans eT)) (gv_step (prs_get hg))
  · have ei : i = ns.length := by omega
    subst ei
    refine .inl ⟨⟨_, ha', by rw [ints_len]; exact Nat.le_refl _⟩, q Dl H' (fresh_back e1 p.1) (e1.trans p.2.1) ?_⟩
    have w := gv_all c g (prs ns)
    rw [prs_len] at w
    rw [← w]
    exact p.2.2⟩
/-- over zip of two lists of ints -/
theorem el_lcZ {ns ms : List Int} {ta tb : TE} {j k : Nat} {vs : List Nat} (c : Int × Int → Bool) (g : Int × Int → V) (h : EvR K ta σ H (ns.map V.int)) (h2 : EvR K tb σ H (ms.map V.int)) (hz : ns.length ≤ 40000) (hw : ∀ x y, wipe (((wipe σ vs).set j (some x)).set k (some y)) vs = wipe σ vs)
    (ht : ∀ n m H1, (n, m) ∈ ns.zip ms → Ex H H1 → EvT t (((wipe σ vs).set j (some (.int n))).set k (some (.int m))) H1 (c (n, m))) (he : ∀ n m H1, (n, m) ∈ ns.zip ms → c (n, m) = true → Ex H H1 → Ev te (((wipe σ vs).set j (some (.int n))).set k (some (.int m))) H1 (g (n, m))) :
    EvL (tLc (iZip K (tCons ta (tCons tb tNil))) (gTup K 2 (gCons (gName j) (gCons (gName k) gNil))) t te vs) σ H (((ns.zip ms).filter c).map g) := fun H0 e Q q => h H0 e _ fun a H0' e0 ha0 => h2 H0' (e.trans e0) _ fun b H1 e1' hb => by
  have e1 : Ex H0 H1 := e0.trans e1'
  have ha : SqL K H1 a (ns.map V.int) := ex_l e1' ha0
  refine ⟨a, b, _, _, rfl, ha, hb, fun Dl hD => ?_⟩
  have hzl : (ns.zip ms).length ≤ ns.length := by rw [List.length_zip]; exact Nat.min_le_left _ _
  refine ⟨fun i m H' => m = (ns.zip ms).length - i ∧ i ≤ (ns.zip ms).length ∧ Cl H1 (gv c g (ns.zip ms)) Dl i H', ⟨(ns.zip ms).length, by simp, Nat.zero_le _, hD, Ex.new hD, upd_same⟩, ?_⟩
  rintro i m H' ⟨rfl, hi, p⟩
  have ha' : SqL K H' a (ns.map V.int) := ex_l p.2.1 ha
  have hb' : SqL K H' b (ms.map V.int) := ex_l p.2.1 hb
  by_cases hlt : i < (ns.zip ms).length
  · have hl := hlt
    rw [List.length_zip] at hl
    have l1 : i < ns.length := by omega
    have l2 : i < ms.length := by omega
    have g1 : ns[i]? = some ns[i] := List.getElem?_eq_getElem l1
    have g2 : ms[i]? = some ms[i] := List.getElem?_eq_getElem l2
    have gz : (ns.zip ms)[i]? = some (ns[i], ms[i]) := by rw [List.getElem?_eq_getElem hlt, List.getElem_zip]
    have mz : (ns[i], ms[i]) ∈ ns.zip ms := List.mem_of_getElem? gz
    refine .inr ⟨⟨_, _, V.int ns[i], V.int ms[i], ha', hb', by rw [List.getElem?_map, g1]; rfl, by rw [List.getElem?_map, g2]; rfl⟩, Cl H1 (gv c g (ns.zip ms)) Dl (i + 1), fun H2 p2 => ⟨(ns.zip ms).length - (i + 1), by omega, rfl, hlt, p2⟩, ?_⟩
    rintro x H2 ⟨T, y, w, rfl, hT, rfl, hy, hw'⟩
    have ey : y = V.int ns[i] := by
      have z := hy _ ha'
      rw [List.getElem?_map, g1] at z
      exact (Option.some.inj z).symm
    have ew : w = V.int ms[i] := by
      have z := hw' _ hb'
      rw [List.getElem?_map, g2] at z
      exact (Option.some.inj z).symm
    subst ey
    subst ew
    have eT : Ex H' (upd H' T (.tup [.int ns[i], .int ms[i]])) := Ex.new hT
    refine ⟨T, _, rfl, st_of upd_same, rfl, _, _, rfl, _, _, rfl, rfl, hw _ _, ?_⟩
    exact cl_turn p eT (by have := gv_len c g (ns.zip ms) i; omega) (ht _ _ _ mz (((e.trans e1).trans p.2.1).trans eT)) (fun hc => he _ _ _ mz hc (((e.trans e1).trans p.2.1).trans eT)) (gv_step gz)
  · have ei : i = (ns.zip ms).length := by omega
    subst ei
    refine .inl ⟨⟨_, _, ha', hb', ?_⟩, q Dl H' (fresh_back e1 p.1) (e1.trans p.2.1) (by rw [← gv_all]; exact p.2.2)⟩
    rw [ints_len, ints_len, List.length_zip]
    omega
theorem filter_yes {α : Type} (xs : List α) : xs.filter (fun _ => true) = xs := by
  induction xs with
  | nil => rfl
  | cons a l ih => rw [List.filter_cons, if_pos rfl, ih]

/-! ### calls of defs -/
/-- the arguments, each a value or a list that is there or new: P says which -/
def EvB (ta : TA) (σ : L2.St) (H : Hp) (P : List V → Hp → Prop) : Prop := ∀ H1, Ex H H1 → ∀ Q : List V → Hp → Prop, (∀ vs H2, Ex H1 H2 → P vs H2 → Q vs H2) → ta σ H1 Q
theorem eb_nil : EvB tNil σ H (fun vs _ => vs = []) := fun H1 _ Q q => q [] H1 (Ex.refl H1) rfl
theorem eb_v {tr : TA} {P : List V → Hp → Prop} (h : Ev te σ H x) (hr : EvB tr σ H P) : EvB (tCons te tr) σ H (fun vs H' => ∃ r, vs = x :: r ∧ P r H') := fun H1 e Q q =>
  h H1 e _ fun H2 e2 => hr H2 (e.trans e2) _ fun vs H3 e3 hp => q _ H3 (e2.trans e3) ⟨vs, rfl, hp⟩
theorem eb_s {tr : TA} {P : List V → Hp → Prop} (h : EvS te σ H xs) (hr : EvB tr σ H P) : EvB (tCons te tr) σ H (fun vs H' => ∃ p r, vs = .ref p :: r ∧ H' p = some (.lst xs) ∧ P r H') := fun H1 e Q q =>
  h H1 e _ fun p H2 e2 hp => hr H2 (e.trans e2) _ fun vs H3 e3 hP => q _ H3 (e2.trans e3) ⟨p, vs, rfl, e3 p _ hp, hP⟩
theorem eb_r {tr : TA} {P : List V → Hp → Prop} (h : EvR K te σ H xs) (hr : EvB tr σ H P) : EvB (tCons te tr) σ H (fun vs H' => ∃ p r, vs = .ref p :: r ∧ SqL K H' p xs ∧ P r H') := fun H1 e Q q =>
  h H1 e _ fun p H2 e2 hp => hr H2 (e.trans e2) _ fun vs H3 e3 hP => q _ H3 (e2.trans e3) ⟨p, vs, rfl, ex_l e3 hp, hP⟩
theorem ev_callB {sp : Sp} {E : XK} {ta : TA} {P : List V → Hp → Prop} (h : EvB ta σ H P) (hs : ∀ vs H1, Ex H H1 → P vs H1 → ∀ Q : VK, RetV z H1 Q → sp vs H1 Q E) : Ev (tCall sp [] E ta) σ H z := fun H1 e Q q =>
  h H1 e _ fun vs H2 e2 hp => by
    rw [List.append_nil]
    exact hs vs H2 (e.trans e2) hp Q fun H3 e3 => q H3 (e2.trans e3)
theorem el_callB {sp : Sp} {E : XK} {ta : TA} {P : List V → Hp → Prop} (h : EvB ta σ H P) (hs : ∀ vs H1, Ex H H1 → P vs H1 → ∀ Q : VK, RetL xs H1 Q → sp vs H1 Q E) : EvL (tCall sp [] E ta) σ H xs := fun H1 e Q q =>
  h H1 e _ fun vs H2 e2 hp => by
    rw [List.append_nil]
    exact hs vs H2 (e.trans e2) hp Q fun p H3 hp e3 h3 => q p H3 (fresh_back e2 hp) (e2.trans e3) h3
end
/-! ### statements that change a list of one's own (H0 does not know it) -/
/-- all but l stays -/
def Bt (l : Addr) (H H2 : Hp) : Prop := ∀ q o, q ≠ l → H q = some o → H2 q = some o
theorem bt_ex {l : Addr} {H H1 : Hp} {o : HO} (e : Ex H H1) : Bt l H (upd H1 l o) := fun q u n h => by
  rw [upd_ne n]
  exact e q u h
section
variable {K : PySem.W.Frag} {σ : L2.St} {H H' H0 : Hp} {ta tb te to ti : TE} {v : V} {xs : List V} {D : Ends} {l : Addr} {tz : TS}
theorem s_appO (h0 : H0 l = none) (e0 : Ex H0 H) (hl : H l = some (.lst xs)) (ha : Ev ta σ H (.ref l)) (h : Ev te σ H v) (hz : xs.length < 100000)
    (k : ∀ H2, Ex H0 H2 → H2 l = some (.lst (xs ++ [v])) → Bt l H H2 → D.nx σ H2) : tDrop (tBM K "list" rAppend ta (tCons te tNil)) D σ H :=
  s_app hl ha h hz fun H1 e1 => k _ (Ex.mut (e0.trans e1) h0) upd_same (bt_ex e1)
theorem q_appO (h0 : H0 l = none) (e0 : Ex H0 H) (hl : H l = some (.lst xs)) (ha : Ev ta σ H (.ref l)) (h : Ev te σ H v) (hz : xs.length < 100000)
    (k : ∀ H2, Ex H0 H2 → H2 l = some (.lst (xs ++ [v])) → Bt l H H2 → tz D σ H2) : tSeq (tDrop (tBM K "list" rAppend ta (tCons te tNil))) tz D σ H :=
  s_appO (D := { D with nx := tz D }) h0 e0 hl ha h hz k
theorem s_setO {j : Nat} (h0 : H0 l = none) (e0 : Ex H0 H) (hl : H l = some (.lst xs)) (h : Ev te σ H v) (ho : Ev ta σ H (.ref l)) (hi : Ev tb σ H (.int (j : Int))) (hj : j < xs.length)
    (k : ∀ H2, Ex H0 H2 → H2 l = some (.lst (xs.set j v)) → Bt l H H2 → D.nx σ H2) : tAsg te (gSub ta tb rSetL) D σ H :=
  s_setL hl h ho hi hj fun H1 e1 => k _ (Ex.mut (e0.trans e1) h0) upd_same (bt_ex e1)
theorem q_setO {j : Nat} (h0 : H0 l = none) (e0 : Ex H0 H) (hl : H l = some (.lst xs)) (h : Ev te σ H v) (ho : Ev ta σ H (.ref l)) (hi : Ev tb σ H (.int (j : Int))) (hj : j < xs.length)
    (k : ∀ H2, Ex H0 H2 → H2 l = some (.lst (xs.set j v)) → Bt l H H2 → tz D σ H2) : tSeq (tAsg te (gSub ta tb rSetL)) tz D σ H :=
  s_setO (D := { D with nx := tz D }) h0 e0 hl h ho hi hj k
theorem s_augL {f : Int → Int → Int} {j : Nat} {a b : Int} (hl : H l = some (.lst xs)) (ho : Ev to σ H (.ref l)) (hi : Ev ti σ H (.int (j : Int))) (hx : xs[j]? = some (.int a)) (he : Ev te σ H (.int b))
    (k : ∀ H1, Ex H H1 → D.nx σ (upd H1 l (.lst (xs.set j (.int (f a b)))))) : tAugS to ti te (rIxL K) (ipI f) rSetL D σ H :=
  ho H (Ex.refl H) _ fun H1 e1 => hi H1 e1 _ fun H2 e2 => ⟨l, xs, (j : Int), .int a, rfl, rfl, sq_of ((e1.trans e2) l _ hl), atI_nat hx, he H2 (e1.trans e2) _ fun H3 e3 =>
    ⟨a, b, rfl, rfl, l, xs, (j : Int), j, rfl, rfl, ((e1.trans e2).trans e3) l _ hl, ixN_nat (List.getElem?_eq_some_iff.mp hx).1, k H3 ((e1.trans e2).trans e3)⟩⟩
theorem s_augO {f : Int → Int → Int} {j : Nat} {a b : Int} (h0 : H0 l = none) (e0 : Ex H0 H) (hl : H l = some (.lst xs)) (ho : Ev to σ H (.ref l)) (hi : Ev ti σ H (.int (j : Int))) (hx : xs[j]? = some (.int a)) (he : Ev te σ H (.int b))
    (k : ∀ H2, Ex H0 H2 → H2 l = some (.lst (xs.set j (.int (f a b)))) → Bt l H H2 → D.nx σ H2) : tAugS to ti te (rIxL K) (ipI f) rSetL D σ H :=
  s_augL hl ho hi hx he fun H1 e1 => k _ (Ex.mut (e0.trans e1) h0) upd_same (bt_ex e1)
theorem ints_set (ns : List Int) (j : Nat) (n : Int) : (ns.map V.int).set j (.int n) = (ns.set j n).map V.int := by
  rw [List.map_set]
theorem ints_at {ns : List Int} {j : Nat} {n : Int} (h : ns[j]? = some n) : (ns.map V.int)[j]? = some (V.int n) := by
  rw [List.getElem?_map, h]
  rfl
theorem ints_snoc (ns : List Int) (n : Int) : ns.map V.int ++ [V.int n] = (ns ++ [n]).map V.int := by
  rw [List.map_append]
  rfl
theorem of_ints {ns : List Int} {i : Nat} {x : V} (h : (ns.map V.int)[i]? = some x) : ∃ n, ns[i]? = some n ∧ x = V.int n := by
  rw [List.getElem?_map] at h
  cases e : ns[i]? with
  | none => rw [e] at h; cases h
  | some n => rw [e] at h; exact ⟨n, rfl, (Option.some.inj h).symm⟩
end
/-! ### more loops -/
section
variable {K : PySem.W.Frag} {σ : L2.St} {H H' : Hp} {ta tb tc : TE} {D : Ends} {tu tz : TS} {a : Addr} {j k : Nat} {ns : List Int}
/-- for i, n in enumerate(a list of ints) -/
theorem s_forEn (h : Ev ta σ H (.ref a)) (hx : SqL K H a (ns.map V.int)) (Pv : Nat → L2.St → Hp → Prop) (h0 : ∀ H1, Ex H H1 → Pv 0 σ H1) (hl : ∀ i σ' H', Pv i σ' H' → SqL K H' a (ns.map V.int))
    (hs : ∀ (i : Nat) n σ' H' H2, ns[i]? = some n → Pv i σ' H' → Ex H' H2 → tu { D with nx := Pv (i + 1), ct := Pv (i + 1), bk := D.nx } ((σ'.set j (some (.int (i : Int)))).set k (some (.int n))) H2) (hd : ∀ σ' H', Pv ns.length σ' H' → D.nx σ' H') :
    tFor (iEnum K (tCons ta tNil)) (gTup K 2 (gCons (gName j) (gCons (gName k) gNil))) tu D σ H := h H (Ex.refl H) _ fun H1 e1 => ⟨a, _, rfl, ex_l e1 hx, by
  refine ⟨fun i m σ' H' => m = ns.length - i ∧ i ≤ ns.length ∧ Pv i σ' H', ⟨ns.length, rfl, Nat.zero_le _, h0 H1 e1⟩, ?_⟩
  rintro i m σ' H' ⟨rfl, hi, p⟩
  have ha' := hl i σ' H' p
  by_cases hlt : i < ns.length
  · have hg : ns[i]? = some ns[i] := List.getElem?_eq_getElem hlt
    refine .inr ⟨⟨_, V.int ns[i], ha', ints_at hg⟩, Pv (i + 1), fun σ2 H2 p2 => ⟨ns.length - (i + 1), by omega, rfl, hlt, p2⟩, ?_⟩
    rintro x H2 ⟨T, y, rfl, hT, rfl, hy⟩
    have ey : y = V.int ns[i] := by
      have z := hy _ ha'
      rw [ints_at hg] at z
      exact (Option.some.inj z).symm
    subst ey
    exact ⟨T, _, rfl, st_of upd_same, rfl, _, _, rfl, _, _, rfl, rfl, hs i _ σ' H' _ hg p (Ex.new hT)⟩
  · have ei : i = ns.length := by omega
    subst ei
    exact .inl ⟨⟨_, ha', by rw [ints_len]; exact Nat.le_refl _⟩, hd σ' H' p⟩⟩
theorem q_forEn (h : Ev ta σ H (.ref a)) (hx : SqL K H a (ns.map V.int)) (Pv : Nat → L2.St → Hp → Prop) (h0 : ∀ H1, Ex H H1 → Pv 0 σ H1) (hl : ∀ i σ' H', Pv i σ' H' → SqL K H' a (ns.map V.int))
    (hs : ∀ (i : Nat) n σ' H' H2, ns[i]? = some n → Pv i σ' H' → Ex H' H2 → tu { D with nx := Pv (i + 1), ct := Pv (i + 1), bk := tz D } ((σ'.set j (some (.int (i : Int)))).set k (some (.int n))) H2) (hd : ∀ σ' H', Pv ns.length σ' H' → tz D σ' H') :
    tSeq (tFor (iEnum K (tCons ta tNil)) (gTup K 2 (gCons (gName j) (gCons (gName k) gNil))) tu) tz D σ H := s_forEn (D := { D with nx := tz D }) h hx Pv h0 hl hs hd
/-- for k in reversed(range(lo, hi)) -/
theorem s_forRv {lo hi : Int} (ha : Ev ta σ H (.int lo)) (hb : Ev tb σ H (.int hi)) (hq : 0 ≤ lo ∧ lo ≤ hi ∧ hi ≤ 100000) (Pv : Nat → L2.St → Hp → Prop) (h0 : ∀ H1, Ex H H1 → Pv 0 σ H1)
    (hs : ∀ (i : Nat) σ' H', lo + (i : Int) < hi → Pv i σ' H' → tu { D with nx := Pv (i + 1), ct := Pv (i + 1), bk := D.nx } (σ'.set j (some (.int (hi - 1 - (i : Int))))) H') (hd : ∀ σ' H', Pv (hi - lo).toNat σ' H' → D.nx σ' H') :
    tFor (iRevR (tRg2 ta tb)) (gName j) tu D σ H := ha H (Ex.refl H) _ fun H1 e1 => hb H1 e1 _ fun H2 e2 => ⟨lo, hi, rfl, rfl, by omega, by omega, by omega, by omega,
      for_rangeC (lo := lo + (((hi - lo).toNat : Nat) : Int) - 1) (c := -1) (n := (hi - lo).toNat) Pv (h0 H2 (e1.trans e2)) (fun i σ' H' hi' p => by
        have e : lo + (((hi - lo).toNat : Nat) : Int) - 1 + (i : Nat) * (-1) = hi - 1 - (i : Int) := by omega
        show tu { D with nx := Pv (i + 1), ct := Pv (i + 1), bk := D.nx } (σ'.set j (some (.int (lo + (((hi - lo).toNat : Nat) : Int) - 1 + (i : Nat) * (-1))))) H'
        rw [e]
        exact hs i σ' H' (by omega) p) hd⟩
theorem q_forRv {lo hi : Int} (ha : Ev ta σ H (.int lo)) (hb : Ev tb σ H (.int hi)) (hq : 0 ≤ lo ∧ lo ≤ hi ∧ hi ≤ 100000) (Pv : Nat → L2.St → Hp → Prop) (h0 : ∀ H1, Ex H H1 → Pv 0 σ H1)
    (hs : ∀ (i : Nat) σ' H', lo + (i : Int) < hi → Pv i σ' H' → tu { D with nx := Pv (i + 1), ct := Pv (i + 1), bk := tz D } (σ'.set j (some (.int (hi - 1 - (i : Int))))) H') (hd : ∀ σ' H', Pv (hi - lo).toNat σ' H' → tz D σ' H') :
    tSeq (tFor (iRevR (tRg2 ta tb)) (gName j) tu) tz D σ H := s_forRv (D := { D with nx := tz D }) ha hb hq Pv h0 hs hd
end
/-! ### two names at once; new lists as arguments; a name that an if may change; found.append(rest.pop()) -/
section
variable {K : PySem.W.Frag} {σ : L2.St} {H H' H0 : Hp} {ta tb tc te to : TE} {t : TT} {D : Ends} {tu tz : TS} {xs ys : List V} {v x y : V} {i j : Nat} {l r : Addr}
theorem eb_n {tr : TA} {P : List V → Hp → Prop} (h : EvL te σ H xs) (hr : EvB tr σ H P) : EvB (tCons te tr) σ H (fun vs H' => ∃ p r, vs = .ref p :: r ∧ H p = none ∧ H' p = some (.lst xs) ∧ P r H') := fun H1 e Q q =>
  h H1 e _ fun p H2 hn e2 hp => hr H2 (e.trans e2) _ fun vs H3 e3 hP => q _ H3 (e2.trans e3) ⟨p, vs, rfl, fresh_back e hn, e3 p _ hp, hP⟩
theorem s_tup2 {P : List V → Hp → Prop} (h : EvB (tCons ta (tCons tb tNil)) σ H P) (hlen : ∀ vs H1, P vs H1 → vs.length = 2) (k : ∀ x y H1 H2, Ex H H1 → P [x, y] H1 → Ex H1 H2 → D.nx ((σ.set i (some x)).set j (some y)) H2) :
    tAsg (tTup (tCons ta (tCons tb tNil))) (gTup K 2 (gCons (gName i) (gCons (gName j) gNil))) D σ H := by
  show tCons ta (tCons tb tNil) σ H (fun xs H1 => xs.length ≤ sizeLine ∧ ∀ p, H1 p = none → gTup K 2 (gCons (gName i) (gCons (gName j) gNil)) (.ref p) σ (upd H1 p (.tup xs)) D.nx)
  refine h H (Ex.refl H) _ fun vs H1 e1 hp => ?_
  have hl := hlen vs H1 hp
  refine ⟨by rw [hl]; decide, fun T hT => ⟨T, vs, rfl, st_of upd_same, hl, ?_⟩⟩
  match vs, hl with
  | [x, y], _ => exact ⟨_, _, rfl, _, _, rfl, rfl, k x y H1 _ e1 hp (Ex.new hT)⟩
theorem q_tup2 {P : List V → Hp → Prop} (h : EvB (tCons ta (tCons tb tNil)) σ H P) (hlen : ∀ vs H1, P vs H1 → vs.length = 2) (k : ∀ x y H1 H2, Ex H H1 → P [x, y] H1 → Ex H1 H2 → tz D ((σ.set i (some x)).set j (some y)) H2) :
    tSeq (tAsg (tTup (tCons ta (tCons tb tNil))) (gTup K 2 (gCons (gName i) (gCons (gName j) gNil)))) tz D σ H := s_tup2 (D := { D with nx := tz D }) h hlen k
theorem s_par {P : List V → Hp → Prop} (h : EvB (tCons ta (tCons tb tNil)) σ H P) (hlen : ∀ vs H1, P vs H1 → vs.length = 2) (k : ∀ x y H1, Ex H H1 → P [x, y] H1 → D.nx ((σ.set i (some x)).set j (some y)) H1) :
    tPar i j (tCons ta (tCons tb tNil)) D σ H := h H (Ex.refl H) _ fun vs H1 e1 hp => by
  have hl := hlen vs H1 hp
  match vs, hl with
  | [x, y], _ => exact ⟨x, y, rfl, k x y H1 e1 hp⟩
theorem q_par {P : List V → Hp → Prop} (h : EvB (tCons ta (tCons tb tNil)) σ H P) (hlen : ∀ vs H1, P vs H1 → vs.length = 2) (k : ∀ x y H1, Ex H H1 → P [x, y] H1 → tz D ((σ.set i (some x)).set j (some y)) H1) :
    tSeq (tPar i j (tCons ta (tCons tb tNil))) tz D σ H := s_par (D := { D with nx := tz D }) h hlen k
theorem set_self : ∀ {σ : L2.St} {i : Nat} {o : Option V}, σ[i]? = some o → σ.set i o = σ
  | [], _, _, h => by simp at h
  | a :: s, 0, o, h => by
    have e : a = o := Option.some.inj h
    subst e
    rfl
  | a :: s, i + 1, o, h => by
    show a :: s.set i o = a :: s
    rw [set_self (σ := s) (i := i) (o := o) (by simpa using h)]
/-- if c: x = a new list: x is a list that H0 does not know behind it -/
theorem q_ifL {b : Bool} {p0 : Addr} (h : EvT t σ H b) (e0 : Ex H0 H) (hσ : σ[i]? = some (some (.ref p0))) (h0 : H0 p0 = none) (hp : H p0 = some (.lst xs)) (hb : b = true → EvL te σ H ys)
    (k : ∀ p H1, Ex H H1 → H0 p = none → H1 p = some (.lst (if b = true then ys else xs)) → tz D (σ.set i (some (.ref p))) H1) : tCut (tIfS t (tAsg te (gName i)) tNext) tz D σ H :=
  q_cut (M := fun σ' H' => ∃ p, σ' = σ.set i (some (.ref p)) ∧ Ex H H' ∧ H0 p = none ∧ H' p = some (.lst (if b = true then ys else xs)))
    (s_when h (fun hb' H1 e1 => s_asgL ((hb hb').mono e1) fun p H2 hn e2 h2 => ⟨p, rfl, e1.trans e2, fresh_back (e0.trans e1) hn, by rw [if_pos hb']; exact h2⟩)
      fun hb' H1 e1 => ⟨p0, (set_self hσ).symm, e1, h0, by rw [hb', if_neg Bool.false_ne_true]; exact e1 _ _ hp⟩)
    fun σ' H' ⟨p, e, e1, hn, hp'⟩ => by
      subst e
      exact k p H' e1 hn hp'
/-- l.append(r.pop()) -/
theorem s_appPop (h0 : H0 l = none) (h0' : H0 r = none) (ne : l ≠ r) (e0 : Ex H0 H) (hl : H l = some (.lst xs)) (hr : H r = some (.lst (ys ++ [v]))) (ha : Ev ta σ H (.ref l)) (hb : Ev tb σ H (.ref r)) (hz : xs.length < 100000)
    (k : ∀ H2, Ex H0 H2 → H2 l = some (.lst (xs ++ [v])) → H2 r = some (.lst ys) → (∀ q o, q ≠ l → q ≠ r → H q = some o → H2 q = some o) → D.nx σ H2) :
    tDrop (tBM K "list" rAppend ta (tCons (tBM0 K "list" rPop tb) tNil)) D σ H := ha H (Ex.refl H) _ fun H1 e1 =>
  ⟨Or.inl ⟨rfl, xs, sq_of (e1 l _ hl)⟩, hb H1 e1 _ fun H2 e2 => ⟨Or.inl ⟨rfl, _, sq_of (e2 r _ (e1 r _ hr))⟩, r, ys ++ [v], v, rfl, rfl, e2 r _ (e1 r _ hr), by simp, by
    refine ⟨l, xs, v, rfl, rfl, by rw [upd_ne ne]; exact e2 l _ (e1 l _ hl), sz_lt hz, ?_⟩
    refine k _ (Ex.mut (Ex.mut ((e0.trans e1).trans e2) h0') h0) upd_same (by rw [upd_ne ne.symm, upd_same, List.dropLast_concat]) fun q o n1 n2 hq => ?_
    rw [upd_ne n1, upd_ne n2]
    exact e2 q _ (e1 q _ hq)⟩⟩
theorem q_appPop (h0 : H0 l = none) (h0' : H0 r = none) (ne : l ≠ r) (e0 : Ex H0 H) (hl : H l = some (.lst xs)) (hr : H r = some (.lst (ys ++ [v]))) (ha : Ev ta σ H (.ref l)) (hb : Ev tb σ H (.ref r)) (hz : xs.length < 100000)
    (k : ∀ H2, Ex H0 H2 → H2 l = some (.lst (xs ++ [v])) → H2 r = some (.lst ys) → (∀ q o, q ≠ l → q ≠ r → H q = some o → H2 q = some o) → tz D σ H2) :
    tSeq (tDrop (tBM K "list" rAppend ta (tCons (tBM0 K "list" rPop tb) tNil))) tz D σ H := s_appPop (D := { D with nx := tz D }) h0 h0' ne e0 hl hr ha hb hz k
/-- c in (a, b, ..) of ints -/
theorem ev_inI {n : Int} {ns : List Int} {ta' : TA} (ha : Ev ta σ H (.int n)) (hb : EvA ta' σ H (ns.map V.int)) (hl : ns.length ≤ 100000) : Ev (tOp (rIn K false) ta (tTup ta')) σ H (.bl (decide (n ∈ ns))) :=
  ev_is (ev_inU ha (eu_tup hb (by rw [ints_len]; exact hl)) rfl (all_flat ns)) (by rw [in_ints])
theorem ne_fresh {p q : Addr} {o : HO} (h : H p = some o) (h' : H q = none) : p ≠ q := ne_of_none h h'
end
/-! ### own classes -/
/-- a method as its callers see it; a class that is made -/
structure Dm (P : Program) (w : World) (K : PySem.W.Frag) (mg : Str → Option Value) (base : Heap) (CX : CXT) (k : Nat) (x : Str) (C f : Addr) (fd : FuncData) (ps : List Str) (sp : Sp) : Prop where
  ok : FnOk P w K mg base CX k f fd ps sp
  cl : Cls K C
  m : Meth K C x f
  b : Binds K fd ps []
structure Dk (P : Program) (w : World) (K : PySem.W.Frag) (mg : Str → Option Value) (base : Heap) (CX : CXT) (k : Nat) (x : Str) (C f : Addr) (fd : FuncData) (ps : List Str) (sp : Sp) : Prop where
  ok : FnOk P w K mg base CX k f fd ps sp
  m : Mk K C f
  g : mg x = some (.ref C)
  b : Binds K fd ps []
/-- what isinstance asks of an instance's class -/
structure Io (K : PySem.W.Frag) (C : Addr) : Prop where
  cl : Cls K C
  ha : PySem.W.findIn K (.ref C) "__class__" = some (some (.builtin "object.__class__"))
  hn : PySem.W.specialIn K (.builtin "object.__class__") "__get__" = some (some (.builtin "getset_descriptor.__get__"))
  ht : PySem.W.takesIn K (.builtin "object.__class__") = some true
  hm : PySem.W.mroIn K C (.type "object") = some true
/-- one reading or another -/
def tOr2 (t u : TE) : TE := fun σ H Q => t σ H Q ∨ u σ H Q
theorem pe_or2 {X : Cx} {e : Expr} {t u : TE} (h : PE X e t) (h' : PE X e u) : PE X e (tOr2 t u) := ⟨fun pins s σ H Q I q => q.elim (h.run pins s σ H Q I) (h'.run pins s σ H Q I)⟩
section
variable {K : PySem.W.Frag} {σ : L2.St} {H H' H0 : Hp} {ta tb tc te to : TE} {t : TT} {D : Ends} {tu tz : TS} {xs ys : List V} {v x y z : V} {i j : Nat} {l r : Addr} {C dx p : Addr} {fs : List (Str × V)} {f : Str}
theorem ev_or1 (h : Ev te σ H v) : Ev (tOr2 te tb) σ H v := fun H1 e Q q => .inl (h H1 e Q q)
theorem ev_or2 (h : Ev te σ H v) : Ev (tOr2 tb te) σ H v := fun H1 e Q q => .inr (h H1 e Q q)
theorem ev_fld (h : Ev ta σ H (.ref p)) (hp : H p = some (.ins C dx fs)) (hc : Cls K C) (hn : NoAttr K C f) (hl : fs.lookup f = some v) : Ev (tFld K ta f) σ H v := fun H1 e Q q =>
  h H1 e _ fun H2 e2 => ⟨p, C, dx, fs, v, rfl, e2 _ _ (e _ _ hp), hc, hn, hl, q H2 e2⟩
/-- an object that is new: P says of it what is known (of its place, the heap behind) -/
def EvX (te : TE) (σ : L2.St) (H : Hp) (P : Hp → Addr → Hp → Prop) : Prop := ∀ H1, Ex H H1 → ∀ Q : VK, (∀ p H2, H1 p = none → Ex H1 H2 → P H1 p H2 → Q (.ref p) H2) → te σ H1 Q
theorem s_asgX {P : Hp → Addr → Hp → Prop} (h : EvX te σ H P) (k : ∀ p H1, H p = none → Ex H H1 → P H p H1 → D.nx (σ.set i (some (.ref p))) H1) : tAsg te (gName i) D σ H := h H (Ex.refl H) _ fun p H1 hp e hP => k p H1 hp e hP
theorem q_asgX {P : Hp → Addr → Hp → Prop} (h : EvX te σ H P) (k : ∀ p H1, H p = none → Ex H H1 → P H p H1 → tz D (σ.set i (some (.ref p))) H1) : tSeq (tAsg te (gName i)) tz D σ H := s_asgX (D := { D with nx := tz D }) h k
theorem s_retX {P : Hp → Addr → Hp → Prop} (h : EvX te σ H P) (k : ∀ p H1, H p = none → Ex H H1 → P H p H1 → D.rt (.ref p) H1) : tRet te D σ H := h H (Ex.refl H) _ fun p H1 hp e hP => k p H1 hp e hP
theorem ex_callB {sp : Sp} {E : XK} {ta : TA} {P : List V → Hp → Prop} {R : Hp → Addr → Hp → Prop} (h : EvB ta σ H P) (hr : ∀ a b p c, Ex a b → b p = none → R b p c → R a p c) (hs : ∀ vs H1, Ex H H1 → P vs H1 → ∀ Q : VK, (∀ p H2, H1 p = none → Ex H1 H2 → R H1 p H2 → Q (.ref p) H2) → sp vs H1 Q E) : EvX (tCall sp [] E ta) σ H R := fun H1 e Q q =>
  h H1 e _ fun vs H2 e2 hp => by
    rw [List.append_nil]
    exact hs vs H2 (e.trans e2) hp Q fun p H3 hn e3 hR => q p H3 (fresh_back e2 hn) (e2.trans e3) (hr _ _ _ _ e2 hn hR)
/-- a field of a new object -/
theorem er_fldX {P : Hp → Addr → Hp → Prop} (h : EvX te σ H P) (hP : ∀ H1 p H2, P H1 p H2 → ∃ C dx fs q, H2 p = some (.ins C dx fs) ∧ Cls K C ∧ NoAttr K C f ∧ fs.lookup f = some (.ref q) ∧ SqL K H2 q xs) : EvR K (tFld K te f) σ H xs := fun H1 e Q k =>
  h H1 e _ fun p H2 _ e2 hp => by
    obtain ⟨C, dx, fs, q, h1, h2, h3, h4, h5⟩ := hP _ _ _ hp
    exact ⟨p, C, dx, fs, _, rfl, h1, h2, h3, h4, k q H2 e2 h5⟩
theorem ev_fldX {P : Hp → Addr → Hp → Prop} (h : EvX te σ H P) (hP : ∀ H1 p H2, P H1 p H2 → ∃ C dx fs, H2 p = some (.ins C dx fs) ∧ Cls K C ∧ NoAttr K C f ∧ fs.lookup f = some v) : Ev (tFld K te f) σ H v := fun H1 e Q k =>
  h H1 e _ fun p H2 _ e2 hp => by
    obtain ⟨C, dx, fs, h1, h2, h3, h4⟩ := hP _ _ _ hp
    exact ⟨p, C, dx, fs, _, rfl, h1, h2, h3, h4, k H2 e2⟩
/-- o.m(..) -/
theorem ev_methB {m : Str} {sp : Sp} {E : XK} {ta' : TA} {P : List V → Hp → Prop} (h : Ev to σ H (.ref p)) (hp : H p = some (.ins C dx fs)) (hl : fs.lookup m = none) (ha : EvB ta' σ H P) (hs : ∀ vs H1, Ex H H1 → P vs H1 → ∀ Q : VK, RetV z H1 Q → sp (.ref p :: vs) H1 Q E) : Ev (tMeth C m sp [] E to ta') σ H z := fun H1 e Q q =>
  h H1 e _ fun H2 e2 => ⟨p, dx, fs, rfl, e2 _ _ (e _ _ hp), hl, ha H2 (e.trans e2) _ fun vs H3 e3 hv => by
    rw [List.append_nil]
    exact hs vs H3 ((e.trans e2).trans e3) hv Q fun H4 e4 => q H4 ((e2.trans e3).trans e4)⟩
/-- C(..), whose __init__ stores one thing made of its arguments: R says what stands behind -/
theorem ex_make {sp : Sp} {E : XK} {ta' : TA} {P : List V → Hp → Prop} {R : Hp → Addr → Hp → Prop} (ha : EvB ta' σ H P) (hr : ∀ a b p c, Ex a b → b p = none → R b p c → R a p c)
    (hs : ∀ vs H1 p dx, Ex H H1 → P vs H1 → H1 p = none → H1 dx = none → dx ≠ p → ∀ Q : VK, (∀ H2, Ex H1 H2 → R H1 p H2 → Q .non H2) → sp (.ref p :: vs) (upd (upd H1 dx (.own p)) p (.ins C dx [])) Q E) : EvX (tMake C sp [] E ta') σ H R := fun H1 e Q q =>
  ha H1 e _ fun vs H2 e2 hp x dx hx hdx ne => by
    rw [List.append_nil]
    exact hs vs H2 x dx (e.trans e2) hp hx hdx ne _ fun H3 e3 hR => ⟨rfl, q x H3 (fresh_back e2 hx) (e2.trans e3) (hr _ _ _ _ e2 hx hR)⟩
theorem ev_isB {a b : Bool} (ha : Ev ta σ H (.bl a)) (hb : Ev tb σ H (.bl b)) : Ev (tOp rIsB ta tb) σ H (.bl (decide (a = b))) := ev_op ha hb fun H1 _ _ q => ⟨a, b, rfl, rfl, q H1 (Ex.refl H1)⟩
theorem ev_notB {a b : Bool} (ha : Ev ta σ H (.bl a)) (hb : Ev tb σ H (.bl b)) : Ev (tOp rNotB ta tb) σ H (.bl (!decide (a = b))) := ev_op ha hb fun H1 _ _ q => ⟨a, b, rfl, rfl, q H1 (Ex.refl H1)⟩
theorem dec_bl' {a b : Bool} : decide (V.bl a = V.bl b) = decide (a = b) := by
  cases a <;> cases b <;> rfl
theorem ev_eqB {a b : Bool} (ha : Ev ta σ H (.bl a)) (hb : Ev tb σ H (.bl b)) : Ev (tOp rEq ta tb) σ H (.bl (decide (a = b))) := ev_is (ev_op ha hb (rv_eq rfl)) (by rw [dec_bl'])
theorem ev_neB {a b : Bool} (ha : Ev ta σ H (.bl a)) (hb : Ev tb σ H (.bl b)) : Ev (tOp rNe ta tb) σ H (.bl (!decide (a = b))) := ev_is (ev_op ha hb (rv_ne rfl)) (by rw [dec_bl'])
theorem ev_isiO {u : Value} {cv : V} {b : Bool} (ha : Ev ta σ H (.ref p)) (hp : H p = some (.ins C dx fs)) (io : Io K C) (hb : Ev tb σ H cv) (hc : ClsV cv u) (hk : PySem.W.kitOne K (.ref C) u = some b) : Ev (tCB (rIsi K) (tCons ta (tCons tb tNil))) σ H (.bl b) :=
  ev_isi ha hb hc (fun H1 e => .base (.ins (e _ _ hp) io.cl io.ha io.hn io.ht io.hm)) hk
/-- two lists sorted, each of the other's items, are one -/
theorem same_sorted : ∀ {a b : List Int}, a.Perm b → a.Pairwise (· ≤ ·) → b.Pairwise (· ≤ ·) → a = b
  | [], b, p, _, _ => p.symm.eq_nil.symm
  | x :: a, [], p, _, _ => absurd p.eq_nil (by simp)
  | x :: a, y :: b, p, ha, hb => by
    obtain ⟨h1, h2⟩ := List.pairwise_cons.mp ha
    obtain ⟨h3, h4⟩ := List.pairwise_cons.mp hb
    have e : x = y := by
      have m1 : x ∈ y :: b := p.mem_iff.mp List.mem_cons_self
      have m2 : y ∈ x :: a := p.mem_iff.mpr List.mem_cons_self
      rcases List.mem_cons.mp m1 with e | m1
      · exact e
      · rcases List.mem_cons.mp m2 with e | m2
        · exact e.symm
        · have q1 := h3 x m1
          have q2 := h1 y m2
          omega
    subst e
    rw [same_sorted (List.perm_cons _ |>.mp p) h2 h4]
theorem ev_sortNe {l ms : List Int} (ha : EvR K ta σ H (l.map V.int)) (hb : EvR K tb σ H (ms.map V.int)) (hms : ms.Pairwise (· ≤ ·)) : Ev (tOp (rNeD K) (tCB (rSortedI K) (tCons ta tNil)) tb) σ H (.bl (!decide (l.Perm ms))) := fun H1 e Q q =>
  ha H1 e _ fun p H2 e2 hp => ⟨p, l, rfl, hp, fun ns' p' perm rise new => hb _ ((e.trans e2).trans (Ex.new new)) _ fun p2 H3 e3 hp2 => ⟨_, _, .lst (sq_of (e3 _ _ upd_same)) (dp_ints K H3 ns'), .lst hp2 (dp_ints K H3 ms), shaped_ints ns', shaped_ints ms, by
    rw [eqv_ints]
    have ee : decide (ns' = ms) = decide (l.Perm ms) := by
      by_cases c : l.Perm ms
      · rw [decide_eq_true c, decide_eq_true (same_sorted (perm.trans c) rise hms)]
      · rw [decide_eq_false c, decide_eq_false fun z : ns' = ms => c (z ▸ perm.symm)]
    rw [ee]
    exact q H3 ((e2.trans (Ex.new new)).trans e3)⟩⟩
theorem el_repL {k : Int} (ha : EvS ta σ H xs) (hb : Ev tb σ H (.int k)) (h0 : 0 ≤ k) (hk : xs.length * k.toNat ≤ 100000) (hk2 : k ≤ 100000) : EvL (tOp rRep ta tb) σ H (List.replicate k.toNat xs).flatten := fun H1 e Q q =>
  ha H1 e _ fun p H2 e2 hp => hb H2 (e.trans e2) _ fun H3 e3 => ⟨p, k, xs, rfl, rfl, e3 p _ hp, by omega, by omega, sz_of hk, fun l hn =>
    q l _ (fresh_back (e2.trans e3) hn) ((e2.trans e3).trans (Ex.new hn)) upd_same⟩
end
/-! ### two places of a list exchanged -/
section
variable {K : PySem.W.Frag} {σ : L2.St} {H H0 : Hp} {ta tb : TE} {D : Ends} {l : Addr} {ns : List Int} {x y : Int} {a i j : Nat} {ia ja : Nat}
theorem s_swapO (h0 : H0 l = none) (e0 : Ex H0 H) (hl : H l = some (.lst (ns.map V.int))) (ha : Ev ta σ H (.int x)) (hb : Ev tb σ H (.int y)) (hσ : σ[a]? = some (some (.ref l))) (hi : σ[ia]? = some (some (.int (i : Int)))) (hj : σ[ja]? = some (some (.int (j : Int)))) (li : i < ns.length) (lj : j < ns.length)
    (k : ∀ H2, Ex H0 H2 → H2 l = some (.lst (((ns.set i x).set j y).map V.int)) → Bt l H H2 → D.nx σ H2) :
    tAsg (tTup (tCons ta (tCons tb tNil))) (gTup K 2 (gCons (gSub (tVar a) (tVar ia) rSetL) (gCons (gSub (tVar a) (tVar ja) rSetL) gNil))) D σ H :=
  ha H (Ex.refl H) _ fun H1 e1 => hb H1 e1 _ fun H2 e2 => ⟨by show 2 ≤ sizeLine; decide, fun T hT => by
    have eT : Ex H (upd H2 T (.tup [.int x, .int y])) := (e1.trans e2).trans (Ex.new hT)
    generalize hG : upd H2 T (.tup [.int x, .int y]) = G at eT
    have hT' : G T = some (.tup [.int x, .int y]) := by rw [← hG]; exact upd_same
    have hl' := eT _ _ hl
    refine ⟨T, _, rfl, st_of hT', rfl, _, _, rfl, ⟨_, hσ, _, hi, l, _, (i : Int), i, rfl, rfl, hl', ixN_nat (by rw [ints_len]; exact li), ?_⟩⟩
    refine ⟨_, _, rfl, ⟨_, hσ, _, hj, l, _, (j : Int), j, rfl, rfl, upd_same, ixN_nat (by rw [List.length_set, ints_len]; exact lj), rfl, ?_⟩⟩
    refine k _ (Ex.mut (Ex.mut (e0.trans eT) h0) h0) (by rw [upd_same, ints_set, ints_set]) fun q o n hq => ?_
    rw [upd_ne n, upd_ne n]
    exact eT _ _ hq⟩
theorem lk_eq (f : Str) (v : V) : List.lookup f [(f, v)] = some v := by simp [List.lookup]
theorem lk_ne {f g : Str} {v : V} (h : (g == f) = false) : List.lookup g [(f, v)] = none := by simp [List.lookup, h]
end
/-! ### pop(i), insert, three names, a list by an if, tuples of things walked -/
section
variable {K : PySem.W.Frag} {σ : L2.St} {H H0 : Hp} {ta tb tc te to ti : TE} {t : TT} {D : Ends} {tu tz : TS} {l : Addr} {xs ys : List V} {v : V} {i j k : Nat}
def rIns : V → List V → Hp → VK → Prop := fun x vs H Q => ∃ (l : Addr) (xs : List V) (i : Int) (y : V), x = .ref l ∧ vs = [.int i, y] ∧ H l = some (.lst xs) ∧ xs.length < sizeLine ∧ 0 ≤ i ∧ i < 2 ^ 63 ∧ Q .non (upd H l (.lst (xs.take i.toNat ++ [y] ++ xs.drop i.toNat)))
theorem kIns {X : Cx} : MtR X "list.insert" rIns := mt_insert
theorem s_insO {n : Nat} (h0 : H0 l = none) (e0 : Ex H0 H) (hl : H l = some (.lst xs)) (ha : Ev ta σ H (.ref l)) (hi : Ev ti σ H (.int (n : Int))) (h : Ev te σ H v) (hn : n ≤ 100000) (hz : xs.length < 100000)
    (k : ∀ H2, Ex H0 H2 → H2 l = some (.lst (xs.take n ++ [v] ++ xs.drop n)) → Bt l H H2 → D.nx σ H2) : tDrop (tBM K "list" rIns ta (tCons ti (tCons te tNil))) D σ H := ha H (Ex.refl H) _ fun H1 e1 =>
  ⟨Or.inl ⟨rfl, xs, sq_of (e1 l _ hl)⟩, hi H1 e1 _ fun H2 e2 => h H2 (e1.trans e2) _ fun H3 e3 => ⟨l, xs, (n : Int), v, rfl, rfl, e3 l _ (e2 l _ (e1 l _ hl)), sz_lt hz, by omega, by omega, by
    have et : ((n : Int)).toNat = n := by omega
    rw [et]
    exact k _ (Ex.mut (e0.trans ((e1.trans e2).trans e3)) h0) upd_same (bt_ex ((e1.trans e2).trans e3))⟩⟩
theorem s_popO {n : Nat} {y : V} (h0 : H0 l = none) (e0 : Ex H0 H) (hl : H l = some (.lst xs)) (ha : Ev ta σ H (.ref l)) (hi : Ev ti σ H (.int (n : Int))) (hn : n ≤ 100000) (hy : xs[n]? = some y)
    (k : ∀ H2, Ex H0 H2 → H2 l = some (.lst (xs.eraseIdx n)) → Bt l H H2 → D.nx σ H2) : tDrop (tBM K "list" rPopAt ta (tCons ti tNil)) D σ H := ha H (Ex.refl H) _ fun H1 e1 =>
  ⟨Or.inl ⟨rfl, xs, sq_of (e1 l _ hl)⟩, hi H1 e1 _ fun H2 e2 => ⟨l, xs, (n : Int), n, y, rfl, rfl, e2 l _ (e1 l _ hl), by omega, by omega, by
    have hlt := (List.getElem?_eq_some_iff.mp hy).1
    unfold seqIndex?
    have c : ¬ ((n : Int) < 0) := by omega
    rw [if_neg c]
    have c2 : (decide ((0 : Int) ≤ (n : Int)) && decide ((n : Int) < (xs.length : Int))) = true := by
      rw [decide_eq_true (by omega : (0 : Int) ≤ (n : Int)), decide_eq_true (by omega : (n : Int) < (xs.length : Int))]
      rfl
    rw [if_pos c2]
    simp, hy, k _ (Ex.mut (e0.trans (e1.trans e2)) h0) upd_same (bt_ex (e1.trans e2))⟩⟩
theorem s_par3 {P : List V → Hp → Prop} (h : EvB (tCons ta (tCons tb (tCons tc tNil))) σ H P) (hlen : ∀ vs H1, P vs H1 → vs.length = 3) (kk : ∀ x y z H1, Ex H H1 → P [x, y, z] H1 → D.nx (((σ.set i (some x)).set j (some y)).set k (some z)) H1) :
    tPar3 i j k (tCons ta (tCons tb (tCons tc tNil))) D σ H := h H (Ex.refl H) _ fun vs H1 e1 hp => by
  have hl := hlen vs H1 hp
  match vs, hl with
  | [x, y, z], _ => exact ⟨x, y, z, rfl, kk x y z H1 e1 hp⟩
theorem q_par3 {P : List V → Hp → Prop} (h : EvB (tCons ta (tCons tb (tCons tc tNil))) σ H P) (hlen : ∀ vs H1, P vs H1 → vs.length = 3) (kk : ∀ x y z H1, Ex H H1 → P [x, y, z] H1 → tz D (((σ.set i (some x)).set j (some y)).set k (some z)) H1) :
    tSeq (tPar3 i j k (tCons ta (tCons tb (tCons tc tNil)))) tz D σ H := s_par3 (D := { D with nx := tz D }) h hlen kk
theorem es_if {b : Bool} (h : EvT t σ H b) (h1 : b = true → EvS ta σ H xs) (h2 : b = false → EvS tb σ H xs) : EvS (tIf t ta tb) σ H xs := fun H1 e Q q => h H1 e _ fun H2 e2 => by
  cases b with
  | true =>
    show ta σ H2 Q
    exact h1 rfl H2 (e.trans e2) Q fun p H3 e3 hp => q p H3 (e2.trans e3) hp
  | false =>
    show tb σ H2 Q
    exact h2 rfl H2 (e.trans e2) Q fun p H3 e3 hp => q p H3 (e2.trans e3) hp
theorem el_if {b : Bool} (h : EvT t σ H b) (h1 : b = true → EvL ta σ H xs) (h2 : b = false → EvL tb σ H xs) : EvL (tIf t ta tb) σ H xs := fun H1 e Q q => h H1 e _ fun H2 e2 => by
  cases b with
  | true =>
    show ta σ H2 Q
    exact h1 rfl H2 (e.trans e2) Q fun p H3 hn e3 hp => q p H3 (fresh_back e2 hn) (e2.trans e3) hp
  | false =>
    show tb σ H2 Q
    exact h2 rfl H2 (e.trans e2) Q fun p H3 hn e3 hp => q p H3 (fresh_back e2 hn) (e2.trans e3) hp
theorem q_asgS (h : EvS te σ H xs) (kk : ∀ p H1, Ex H H1 → H1 p = some (.lst xs) → tz D (σ.set i (some (.ref p))) H1) : tSeq (tAsg te (gName i)) tz D σ H := h H (Ex.refl H) _ fun p H1 e hp => kk p H1 e hp
/-- over a new tuple of values -/
theorem s_forTV {vs : List V} {ta' : TA} (h : EvA ta' σ H vs) (hl : vs.length ≤ 1000) (Pv : Hp → Nat → L2.St → Hp → Prop) (h0 : ∀ H1, Ex H H1 → Pv H1 0 σ H1) (hx : ∀ H1 i σ' H', Pv H1 i σ' H' → Ex H1 H')
    (hs : ∀ H1 i x σ' H', Ex H H1 → vs[i]? = some x → Pv H1 i σ' H' → tu { D with nx := Pv H1 (i + 1), ct := Pv H1 (i + 1), bk := D.nx } (σ'.set j (some x)) H') (hd : ∀ H1 σ' H', Ex H H1 → Pv H1 vs.length σ' H' → D.nx σ' H') : tFor (iTup K (tTup ta')) (gName j) tu D σ H :=
  h H (Ex.refl H) _ fun H1 e1 => ⟨sz_of (by omega), fun T hT => ⟨T, rfl, ⟨vs, st_of upd_same⟩, for_tup (Pv (upd H1 T (.tup vs))) (h0 _ (e1.trans (Ex.new hT))) (fun i σ' H' _ p => st_of (hx _ i σ' H' p T _ upd_same))
    (fun i x σ' H' hi p => hs _ i x σ' H' (e1.trans (Ex.new hT)) hi p) fun σ' H' p => hd _ σ' H' (e1.trans (Ex.new hT)) p⟩⟩
theorem q_forTV {vs : List V} {ta' : TA} (h : EvA ta' σ H vs) (hl : vs.length ≤ 1000) (Pv : Hp → Nat → L2.St → Hp → Prop) (h0 : ∀ H1, Ex H H1 → Pv H1 0 σ H1) (hx : ∀ H1 i σ' H', Pv H1 i σ' H' → Ex H1 H')
    (hs : ∀ H1 i x σ' H', Ex H H1 → vs[i]? = some x → Pv H1 i σ' H' → tu { D with nx := Pv H1 (i + 1), ct := Pv H1 (i + 1), bk := tz D } (σ'.set j (some x)) H') (hd : ∀ H1 σ' H', Ex H H1 → Pv H1 vs.length σ' H' → tz D σ' H') : tSeq (tFor (iTup K (tTup ta')) (gName j) tu) tz D σ H :=
  s_forTV (D := { D with nx := tz D }) h hl Pv h0 hx hs hd
end
end OfE

set_option Elab.async false
set_option linter.all false
set_option maxRecDepth 100000
set_option maxHeartbeats 4000000
namespace OfP
open PySem L2 Evl OfE OfM
def topS (i : Nat) : Stmt := PySem.Challenge.pw_offseat_k05_refused.main.body.getD i (.Pass ⟨0, 0, 0, 0⟩)
theorem tyx_ex {K : PySem.W.Frag} {H H' : Hp} {x : V} {c : Value} (e : Ex H H') (h : TyX K H x c) : TyX K H' x c := by
  cases h with
  | base b =>
    refine .base ?_
    cases b with
    | non => exact .non
    | bl y => exact .bl y
    | int i => exact .int i
    | str y => exact .str y
    | flt y => exact .flt y
    | lst q => exact .lst (e _ _ q)
    | frz q => exact .frz (e _ _ q)
    | tup q => exact .tup (e _ _ q)
    | dK q => exact .dK (e _ _ q)
    | dT q => exact .dT (e _ _ q)
    | ins q cl ha hn ht hm => exact .ins (e _ _ q) cl ha hn ht hm
  | byt b => exact .byt b
  | set q => exact .set (e _ _ q)
  | kList q c => exact .kList q c
  | kTuple q c => exact .kTuple q c
  | kDict q c => exact .kDict q c
  | fTuple q => exact .fTuple (e _ _ q)
  | fDict q => exact .fDict (e _ _ q)

local macro_rules | `(tactic| walk_at "sq") => `(tactic| first
  | assumption
  | exact upd_same
  | exact exAt (by assumption) (by walk_at "sq")
  | exact sq_of (by walk_at "sq")
  | exact st_of (by walk_at "sq")
  | exact ex_l (by assumption) (by walk_at "sq")
  | exact ex_t (by assumption) (by walk_at "sq"))
local macro_rules | `(tactic| walk_at "ev") => `(tactic| first
  | with_reducible exact ev_c
  | ((with_reducible apply ev_var); exact rfl)
  | ((with_reducible apply ev_I0) <;> try walk_at "ev")
  | ((with_reducible apply ev_I) <;> try walk_at "ev")
  | ((with_reducible apply ev_U_neg) <;> try walk_at "ev")
  | ((with_reducible apply ev_U) <;> try walk_at "ev")
  | ((with_reducible apply ev_eqI) <;> try walk_at "ev")
  | ((with_reducible apply ev_neI) <;> try walk_at "ev")
  | ((with_reducible apply ev_chain) <;> try walk_at "ev")
  | ((with_reducible apply ev_ixR) <;> try walk_at "ev")
  | ((with_reducible apply ev_lenR) <;> try walk_at "ev")
  | ((with_reducible apply ev_allR) <;> try walk_at "ev")
  | ((with_reducible apply ev_anyR) <;> try walk_at "ev")
  | ((with_reducible apply ev_sumR) <;> try walk_at "ev")
  | ((with_reducible apply ev_eqL) <;> try walk_at "ev")
  | ((with_reducible apply ev_neL) <;> try walk_at "ev")
  | ((with_reducible apply ev_mx2) <;> try walk_at "ev")
  | ((with_reducible apply ev_mn2) <;> try walk_at "ev")
  | ((with_reducible apply ev_cnt) <;> try walk_at "ev")
  | ((with_reducible apply ev_notV) <;> try walk_at "ev")
  | ((with_reducible apply ev_andV) <;> (try intro _) <;> try walk_at "ev")
  | ((with_reducible apply ev_orV) <;> (try intro _) <;> try walk_at "ev")
  | ((with_reducible apply et_yes))
  | ((with_reducible apply et_test) <;> try walk_at "ev")
  | ((with_reducible apply et_B) <;> try walk_at "ev")
  | ((with_reducible apply et_not) <;> try walk_at "ev")
  | ((with_reducible apply et_and) <;> (try intro _) <;> try walk_at "ev")
  | ((with_reducible apply et_or) <;> (try intro _) <;> try walk_at "ev")
  | with_reducible exact ea_nil
  | ((with_reducible apply ea_cons) <;> try walk_at "ev")
  | with_reducible exact eo_none
  | ((with_reducible apply eo_some) <;> try walk_at "ev")
  | ((with_reducible apply er_var); exact rfl; try walk_at "sq")
  | ((with_reducible apply es_var); exact rfl; try walk_at "sq")
  | ((with_reducible apply er_of) <;> try walk_at "ev")
  | ((with_reducible apply es_new) <;> try walk_at "ev")
  | ((with_reducible apply el_cat) <;> try walk_at "ev")
  | ((with_reducible apply el_rep) <;> try walk_at "ev")
  | ((with_reducible apply el_lst) <;> try walk_at "ev")
  | ((with_reducible apply el_sli) <;> try walk_at "ev")
  | ((with_reducible apply el_of) <;> try walk_at "ev")
  | ((with_reducible apply el_rev) <;> try walk_at "ev")
  | ((with_reducible apply el_rg) <;> try walk_at "ev")
  | ((with_reducible apply eu_tup) <;> try walk_at "ev"))

section
variable {P : Program} {w : World} {K : PySem.W.Frag} {mg : Str → Option Value} {base : Heap}
/-! ### is_whole -/
theorem sc_is_whole : FnScope ["thing"] ["thing"] (defScope (topS 7)) :=
  ⟨rfl, rfl, rfl, by decide +kernel, rfl, by decide +kernel, by decide +kernel⟩

/-- what a value's kind says: b1 an int, b2 a bool -/
def Kd (K : PySem.W.Frag) (H : Hp) (x : V) (b1 b2 : Bool) : Prop := ∃ c, TyX K H x c ∧ PySem.W.kitOne K c (.type "int") = some b1 ∧ PySem.W.kitOne K c (.type "bool") = some b2
theorem kd_int (n : Int) {H : Hp} : Kd K H (.int n) true false := ⟨_, .base (.int n), kit_ty (by decide +kernel), kit_ty (by decide +kernel)⟩
def spWhole (K : PySem.W.Frag) : Sp := fun vs H Q _ => ∃ (x : V) (b1 b2 : Bool), vs = [x] ∧ Kd K H x b1 b2 ∧ RetV (.bl (b1 && !b2)) H Q
theorem ok_is_whole {f : Addr} {fd : FuncData} (F : Fun K "is_whole" "is_whole" (topS 7) f fd) (B : Bi mg) : FnOk P w K mg base CX0 1 f fd ["thing"] (spWhole K) := by
  refine F.ok sc_is_whole (fun vs H Q E h => ?_) (fun cdv A outer s H vs Q E hr h => ?_)
  · obtain ⟨x, b1, b2, rfl, _⟩ := h
    rfl
  · obtain ⟨x, b1, b2, rfl, ⟨c, ht, h1, h2⟩, k⟩ := h
    refine ⟨_, (pss_one (ps_ret (pe_and (pe_callB (kIsi K) (by rfl) B.isinstance (by decide +kernel) (pa_cons (pv 0) (pa_cons (pe_bltn (v := .ty "int") (u := .type "int") (by rfl) B.int (by decide +kernel) rfl) pa_nil))) (pe_one (pe_not (pe_callB (kIsi K) (by rfl) B.isinstance (by decide +kernel) (pa_cons (pv 0) (pa_cons (pe_bltn (v := .ty "bool") (u := .type "bool") (by rfl) B.bool (by decide +kernel) rfl) pa_nil)))))))), ?_⟩
    exact s_ret (ev_andV (ev_isi (ev_var rfl) ev_c (.ty "int") (fun H1 e => tyx_ex e ht) h1) fun _ => ev_notV (ev_isi (ev_var rfl) ev_c (.ty "bool") (fun H1 e => tyx_ex e ht) h2)) k
theorem ev_whole {σ : L2.St} {H : Hp} {te : TE} {n : Int} {E : XK} (h : Ev te σ H (.int n)) : Ev (tCall (spWhole K) [] E (tCons te tNil)) σ H (.bl true) :=
  ev_callB (eb_v h eb_nil) fun vs H1 e ⟨r, e1, e2⟩ Q k => by
    subst e2
    exact ⟨_, true, false, e1, kd_int n, k⟩

/-! ### items, things -/
def wholeV : V → Bool
  | .int _ => true
  | _ => false
theorem whole_int {x : V} (h : wholeV x = true) : ∃ k, x = .int k := by
  cases x with
  | int k => exact ⟨k, rfl⟩
  | _ => exact absurd h Bool.false_ne_true
/-- an item that is_whole tells rightly -/
def Itm (K : PySem.W.Frag) (H : Hp) (x : V) : Prop := ∃ b1 b2, Kd K H x b1 b2 ∧ (b1 && !b2) = wholeV x
theorem Itm.ex {H H' : Hp} {x : V} (e : Ex H H') (h : Itm K H x) : Itm K H' x := by
  obtain ⟨b1, b2, ⟨c, h1, h2, h3⟩, h4⟩ := h
  exact ⟨b1, b2, ⟨c, tyx_ex e h1, h2, h3⟩, h4⟩
theorem itm_int {H : Hp} {n : Int} : Itm K H (.int n) := ⟨_, _, kd_int n, rfl⟩
theorem itm_bl {H : Hp} {b : Bool} : Itm K H (.bl b) := ⟨true, true, ⟨_, .base (.bl b), kit_ty (by decide +kernel), kit_ty (by decide +kernel)⟩, rfl⟩
theorem itm_non {H : Hp} : Itm K H .non := ⟨false, false, ⟨_, .base .non, kit_ty (by decide +kernel), kit_ty (by decide +kernel)⟩, rfl⟩
theorem itm_str {H : Hp} {x : Str} : Itm K H (.str x) := ⟨false, false, ⟨_, .base (.str x), kit_ty (by decide +kernel), kit_ty (by decide +kernel)⟩, rfl⟩
theorem itm_lst {H : Hp} {p : Addr} {xs : List V} (h : H p = some (.lst xs)) : Itm K H (.ref p) := ⟨false, false, ⟨_, .base (.lst h), kit_ty (by decide +kernel), kit_ty (by decide +kernel)⟩, rfl⟩
theorem itm_tup {H : Hp} {p : Addr} {xs : List V} (h : H p = some (.tup xs)) : Itm K H (.ref p) := ⟨false, false, ⟨_, .base (.tup h), kit_ty (by decide +kernel), kit_ty (by decide +kernel)⟩, rfl⟩
theorem ev_wholeI {σ : L2.St} {H : Hp} {te : TE} {x : V} {E : XK} (h : Ev te σ H x) (hi : Itm K H x) : Ev (tCall (spWhole K) [] E (tCons te tNil)) σ H (.bl (wholeV x)) :=
  ev_callB (eb_v h eb_nil) fun vs H1 e ⟨r, e1, e2⟩ Q k => by
    subst e2
    obtain ⟨b1, b2, h1, h2⟩ := hi.ex e
    exact ⟨_, b1, b2, e1, h1, by rw [h2]; exact k⟩
/-- a thing: a list of items, or none at all -/
inductive Th (K : PySem.W.Frag) (H : Hp) : V → Option (List V) → Prop
  | lst {p : Addr} {xs : List V} : H p = some (.lst xs) → (∀ x ∈ xs, Itm K H x) → xs.length ≤ 1000 → Th K H (.ref p) (some xs)
  | oth {x : V} {c : Value} : TyX K H x c → PySem.W.kitOne K c (.type "list") = some false → Th K H x none
theorem Th.ex {H H' : Hp} {x : V} {o : Option (List V)} (e : Ex H H') (h : Th K H x o) : Th K H' x o := by
  cases h with
  | lst h1 h2 h3 => exact .lst (e _ _ h1) (fun x hx => (h2 x hx).ex e) h3
  | oth h1 h2 => exact .oth (tyx_ex e h1) h2
theorem th_int {H : Hp} {n : Int} : Th K H (.int n) none := .oth (.base (.int n)) (kit_ty (by decide +kernel))
theorem th_bl {H : Hp} {b : Bool} : Th K H (.bl b) none := .oth (.base (.bl b)) (kit_ty (by decide +kernel))
theorem th_non {H : Hp} : Th K H .non none := .oth (.base .non) (kit_ty (by decide +kernel))
theorem th_str {H : Hp} {x : Str} : Th K H (.str x) none := .oth (.base (.str x)) (kit_ty (by decide +kernel))
theorem th_tup {H : Hp} {p : Addr} {xs : List V} (h : H p = some (.tup xs)) : Th K H (.ref p) none := .oth (.base (.tup h)) (kit_ty (by decide +kernel))
theorem th_dK {H : Hp} {p : Addr} {kvs : List (Key × V)} (h : H p = some (.dK kvs)) : Th K H (.ref p) none := .oth (.base (.dK h)) (kit_ty (by decide +kernel))
theorem th_ints {H : Hp} {p : Addr} {g : List Int} (h : H p = some (.lst (g.map V.int))) (hz : g.length ≤ 1000) : Th K H (.ref p) (some (g.map V.int)) := .lst h (fun x hx => by
  obtain ⟨n, _, rfl⟩ := List.mem_map.mp hx
  exact itm_int) (by rw [ints_len]; exact hz)
theorem ev_isL {σ : L2.St} {H : Hp} {te : TE} {x : V} {o : Option (List V)} (h : Ev te σ H x) (t : Th K H x o) : Ev (tCB (rIsi K) (tCons te (tCons (tC (.ty "list")) tNil))) σ H (.bl o.isSome) := by
  cases t with
  | lst h1 h2 h3 => exact ev_isiR (b := true) (es_at h h1) ev_c (.ty "list") (kit_ty (by decide +kernel))
  | oth h1 h2 => exact ev_isi h ev_c (.ty "list") (fun H1 e => tyx_ex e h1) h2
/-- a comprehension over a list of any values -/
theorem el_lcV {σ : L2.St} {H : Hp} {tl te : TE} {t : TT} {xs : List V} {j : Nat} {vs : List Nat} (c : V → Bool) (g : V → V) (h : EvR K tl σ H xs) (hz : xs.length ≤ 40000) (hw : ∀ x, wipe ((wipe σ vs).set j (some x)) vs = wipe σ vs)
    (ht : ∀ x H1, x ∈ xs → Ex H H1 → EvT t ((wipe σ vs).set j (some x)) H1 (c x)) (he : ∀ x H1, x ∈ xs → c x = true → Ex H H1 → Ev te ((wipe σ vs).set j (some x)) H1 (g x)) :
    EvL (tLc (iList K tl) (gName j) t te vs) σ H ((xs.filter c).map g) := fun H0 e Q q => h H0 e _ fun a H1 e1 ha => ⟨a, rfl, ⟨_, ha⟩, fun Dl hD =>
  lc_list (xs := xs) (Cl H1 (gv c g xs) Dl) ⟨hD, Ex.new hD, upd_same⟩ (fun i H' _ p => ex_l p.2.1 ha) (fun i x H' hi p => by
    have hm : x ∈ xs := List.mem_of_getElem? hi
    exact ⟨hw _, cl_turn p (Ex.refl _) (by have := gv_len c g xs i; omega) (ht x H' hm ((e.trans e1).trans p.2.1)) (fun hc => he x H' hm hc ((e.trans e1).trans p.2.1)) (gv_step hi)⟩)
    (fun H' p => q Dl H' (fresh_back e1 p.1) (e1.trans p.2.1) (by rw [← gv_all]; exact p.2.2))⟩
/-- a refusal: raised, all else stands -/
def RetX (C : Addr) (H : Hp) (E : XK) : Prop := ∀ H2, Ex H H2 → E (.ref C) none H2
/-- what an own class of errors has, to be raised -/
structure XCls (K : PySem.W.Frag) (mg : Str → Option Value) (x : Str) (C : Addr) : Prop where
  ex : PySem.W.excIn K C [.type "ValueError", .type "Exception", .type "BaseException", .type "object"] "ValueError.__new__" = true
  g : mg x = some (.ref C)
  k : PySem.W.keepIn K (.ref C) = true
  b : PySem.W.subIn K (.ref C) (.type "BaseException") = some true
  t : PySem.W.typeIn K (.ref C) = some (.type "type")
/-! ### check_shuns -/
def Ok (g : List Int) : Prop := (∀ n ∈ g, -1 ≤ n ∧ n < (g.length : Int)) ∧ g.length ≤ 63
def okV (n : Nat) : V → Bool
  | .int k => decide (-1 ≤ k) && decide (k < (n : Int))
  | _ => false
def badT : Option (List V) → Bool
  | none => true
  | some xs => !(xs.all (okV xs.length))
theorem bad_ok {g : List Int} (ok : Ok g) : badT (some (g.map V.int)) = false := by
  show (!((g.map V.int).all (okV (g.map V.int).length))) = false
  rw [ints_len, Bool.not_eq_false', List.all_eq_true]
  intro x hx
  obtain ⟨n, hn, rfl⟩ := List.mem_map.mp hx
  obtain ⟨h1, h2⟩ := ok.1 n hn
  show (decide (-1 ≤ n) && decide (n < (g.length : Int))) = true
  rw [decide_eq_true h1, decide_eq_true h2]
  rfl
theorem sc_check_shuns : FnScope ["shuns", "seat"] ["shuns"] (defScope (topS 8)) :=
  ⟨rfl, rfl, rfl, by decide +kernel, rfl, by decide +kernel, by decide +kernel⟩

def spCheckX (K : PySem.W.Frag) (C : Addr) : Sp := fun vs H Q E => ∃ (x : V) (o : Option (List V)), vs = [x] ∧ Th K H x o ∧ (badT o = true → RetX C H E) ∧ (badT o = false → RetV .non H Q)
theorem ok_checkX {f fw C : Addr} {fd fdw : FuncData} (F : Fun K "check_shuns" "check_shuns" (topS 8) f fd) (B : Bi mg) (XS : XCls K mg "BadShuns" C) (D_is_whole : Df P w K mg base CX0 1 "is_whole" fw fdw ["thing"] (spWhole K)) :
    FnOk P w K mg base (L2.CX P w) 2 f fd ["shuns"] (spCheckX K C) := by
  refine F.okX sc_check_shuns (fun vs H Q E h => ?_) (fun cdv A outer s H vs Q E hr h => ?_)
  · obtain ⟨x, o, rfl, _⟩ := h
    rfl
  · obtain ⟨x, o, rfl, th, kb, kg⟩ := h
    refine ⟨_, (pss_one (ps_if (PW.pt (pw_or (pt_not (pt_val (pe_callB (kIsi K) (by rfl) B.isinstance (by decide +kernel) (pa_cons (pv 0) (pa_cons (pe_bltn (v := .ty "list") (u := .type "list") (by rfl) B.list (by decide +kernel) rfl) pa_nil))))) (pw_or1 (pt_not (pt_val (pe_callB (kAll K) (by rfl) B.all (by decide +kernel) (pa_cons (pe_lc (own := [("seat", 1)]) (by rfl) sc_check_shuns.nd (kpList K (pv 0)) (blkOk_by (own := [("seat", 1)]) (N := ["shuns", "seat"]) (sc := defScope (topS 8)) (by decide +kernel)) (fun _ _ _ _ _ => (pg_name (i := 1) sc_check_shuns.nd rfl (Or.inl rfl))) (fun _ _ _ _ _ => pts_nil) (fun _ _ _ _ _ => (pe_and (pe_call D_is_whole.ok (hr.mono (by decide)) (by rfl) D_is_whole.g D_is_whole.kp D_is_whole.b .nil pass0 (pa_cons (pv 1) pa_nil)) (pe_one (pe_chain op_le op_lt (pe_un un_neg pe_int) (pv 1) (pe_callB (kLen K) (by rfl) B.len PySem.boot_len (pa_cons (pv 0) pa_nil))))))) pa_nil)))))))
 (pss_one (ps_raise rfl (takes_of rfl rfl rfl rfl) (pmk_own PySem.F.excBase_ValueError XS.ex XS.g XS.k (raises_own XS.b XS.t) rfl)))
 pss_nil)), ?_⟩
    refine s_if (b := badT o) ?_ (fun hb H1 e1 => ?_) fun hb H1 e1 => kg hb H1 e1
    · refine et_is (et_or (a := !o.isSome) (b := badT o) (et_not (et_B (ev_isL (ev_var rfl) th))) fun ho => ?_) ?_
      · cases th with
        | oth h1 h2 => exact nomatch ho
        | @lst p xs h1 h2 h3 =>
          refine et_not (et_B (ev_is (ev_allR (bs := xs.map (okV xs.length)) (er_of (es_new (el_is (el_lcV (fun _ => true) (fun x => V.bl (okV xs.length x)) (er_var rfl (sq_of h1)) (by omega) (fun _ => rfl) (fun _ _ _ _ => et_yes) fun x H1 hx _ e => ?_) ?_)))) ?_))
          · refine ev_is (ev_andV (b := okV xs.length x) (ev_wholeI (ev_var rfl) ((h2 x hx).ex e)) fun hw => ?_) ?_
            · obtain ⟨k, rfl⟩ := whole_int hw
              exact ev_chain (ev_U_neg ev_c) (ev_var rfl) (ev_lenR (er_var rfl (sq_of (e _ _ h1))))
            · cases x <;> rfl
          · rw [filter_yes, List.map_map]
            rfl
          · rw [List.all_map]
            rfl
      · cases o <;> rfl
    · exact kb hb H1 e1
theorem call_checkX {σ : L2.St} {H : Hp} {te : TE} {D : Ends} {tz : TS} {x : V} {o : Option (List V)} {C : Addr} {E : XK} (h : Ev te σ H x) (th : Th K H x o) (kb : badT o = true → RetX C H E) (kg : badT o = false → ∀ H1, Ex H H1 → tz D σ H1) : tSeq (tDrop (tCall (spCheckX K C) [] E (tCons te tNil))) tz D σ H :=
  h H (Ex.refl H) _ fun H1 e1 => ⟨x, o, rfl, th.ex e1, fun hb H2 e2 => kb hb H2 (e1.trans e2), fun hb H2 e2 => kg hb H2 (e1.trans e2)⟩
end


section
variable {P : Program} {w : World} {K : PySem.W.Frag} {mg : Str → Option Value} {base : Heap}
/-- the counts of shuns -/
def cts (g : List Int) : List Int := cs (seats g.length) g
theorem cts_len (g : List Int) : (cts g).length = g.length + 1 := by
  unfold cts cs
  rw [lst_len]
def spCounts : Sp := fun vs H Q _ => ∃ (a : Addr) (g : List Int), vs = [.ref a] ∧ H a = some (.lst (g.map V.int)) ∧ Ok g ∧ RetL ((cts g).map V.int) H Q
end


section
variable {P : Program} {w : World} {K : PySem.W.Frag} {mg : Str → Option Value} {base : Heap}
/-! ### orders_to -/
theorem sc_orders_to : FnScope ["many", "found", "size"] ["many"] (defScope (topS 9)) :=
  ⟨rfl, rfl, rfl, by decide +kernel, rfl, by decide +kernel, by decide +kernel⟩

def spOrders : Sp := fun vs H Q _ => ∃ n : Nat, vs = [.int (n : Int)] ∧ n ≤ 64 ∧ RetL ((lst fac 0 (n + 1)).map V.int) H Q
theorem ok_orders_to {f : Addr} {fd : FuncData} (F : Fun K "orders_to" "orders_to" (topS 9) f fd) (B : Bi mg) : FnOk P w K mg base CX0 1 f fd ["many"] spOrders := by
  refine F.ok sc_orders_to (fun vs H Q E h => ?_) (fun cdv A outer s H vs Q E hr h => ?_)
  · obtain ⟨n, rfl, _⟩ := h
    rfl
  · obtain ⟨n, rfl, hn, k⟩ := h
    refine ⟨_, (pss_cons (ps_set (i := 1) sc_orders_to.nd rfl (Or.inl rfl) (pe_lst (pa_cons pe_int pa_nil)))
 (pss_cons (ps_for PassesOwn.never rfl (pi_range2 (by rfl) B.range (pa_cons pe_int (pa_cons (pe_op op_add (pv 0) pe_int) pa_nil))) (pg_name (i := 2) sc_orders_to.nd rfl (Or.inl rfl))
 (pss_one (ps_expr (kBm K PySem.F.plainAttrs_list PySem.F.slot_list_append PySem.F.type_list_append mt_append (pv 1) (pa_cons (pe_op op_mul (pe_ix (kIx K) (pv 1) (pe_un un_neg pe_int) (fun _ _ => rfl)) (pv 2)) pa_nil)))))
 (pss_one (ps_ret (pv 1))))), ?_⟩
    refine q_asgL (xs := [V.int 1]) (by walk_at "ev"; decide) fun p H1 hp e1 h1 => ?_
    refine q_forR2 (lo := 1) (n := (n : Int) + 1) (by walk_at "ev") ⟨by omega, by omega, by omega, by omega⟩
      (fun i σ' H' => (∃ v, σ' = [some (.int (n : Int)), some (.ref p), v]) ∧ Ex H H' ∧ H' p = some (.lst ((lst fac 0 (i + 1)).map V.int))) (fun H2 e2 => ⟨⟨_, rfl⟩, e1.trans e2, e2 _ _ h1⟩) ?_ ?_
    · rintro i σ' H' hi ⟨⟨v, rfl⟩, eH, hl⟩
      refine s_appO (v := V.int (fac i * (1 + (i : Int)))) hp eH hl (ev_var rfl) ?_ (by rw [ints_len, lst_len]; omega) fun H2 e2 h2 _ => ⟨⟨_, rfl⟩, e2, ?_⟩
      · refine ev_I (ev_ixR (er_var rfl (sq_of hl)) (ev_U_neg ev_c) (at_last (lst_last fac i))) (ev_var rfl) (Or.inr ?_)
        omega
      · rw [h2, ints_snoc, lst_succ fac (i + 1)]
        have e : fac i * (1 + (i : Int)) = fac (i + 1) := by show _ = fac i * ((i : Int) + 1); rw [Int.add_comm 1]
        rw [e]
    · rintro σ' H' ⟨⟨v, rfl⟩, eH, hl⟩
      have e : ((n : Int) + 1 - 1).toNat = n := by omega
      rw [e] at hl
      exact s_ret (ev_var rfl) fun H2 e2 => k p H2 hp (eH.trans e2) (e2 _ _ hl)
/-! ### with_part -/
theorem sc_with_part : FnScope ["sums", "many", "longer", "k"] ["sums", "many"] (defScope (topS 10)) :=
  ⟨rfl, rfl, rfl, by decide +kernel, rfl, by decide +kernel, by decide +kernel⟩

def spWith : Sp := fun vs H Q _ => ∃ (a : Addr) (g : List Int) (m : Int), vs = [.ref a, .int m] ∧ H a = some (.lst (g.map V.int)) ∧ g.length ≤ 100 ∧ (0 ≤ m ∧ m ≤ 100) ∧ RetL ((wp g m).map V.int) H Q
theorem ok_with_part {f : Addr} {fd : FuncData} (F : Fun K "with_part" "with_part" (topS 10) f fd) (B : Bi mg) : FnOk P w K mg base CX0 1 f fd ["sums", "many"] spWith := by
  refine F.ok sc_with_part (fun vs H Q E h => ?_) (fun cdv A outer s H vs Q E hr h => ?_)
  · obtain ⟨a, g, m, rfl, _⟩ := h
    rfl
  · obtain ⟨a, g, m, rfl, ha, hz, ⟨m0, m1⟩, k⟩ := h
    refine ⟨_, (pss_cons (ps_if (pt_cmpR op_eq (pv 1) pe_int (nomark _))
 (pss_one (ps_ret (pe_callTy (kList K) (by rfl) B.list (by decide +kernel) (pa_cons (pv 0) pa_nil))))
 pss_nil)
 (pss_cons (ps_set (i := 2) sc_with_part.nd rfl (Or.inr rfl) (pe_op op_cat (pv 0) (pe_lst (pa_cons pe_int pa_nil))))
 (pss_one (ps_ret (pe_lc (own := [("k", 3)]) (by rfl) sc_with_part.nd (pi_range1 (by rfl) B.range (pa_cons (pe_callB (kLen K) (by rfl) B.len PySem.boot_len (pa_cons (pv 2) pa_nil)) pa_nil)) (blkOk_by (own := [("k", 3)]) (N := ["sums", "many", "longer", "k"]) (sc := defScope (topS 10)) (by decide +kernel)) (fun _ _ _ _ _ => (pg_name (i := 3) sc_with_part.nd rfl (Or.inl rfl))) (fun _ _ _ _ _ => pts_nil) (fun _ _ _ _ _ => (pe_op op_add (pe_ix (kIx K) (pv 2) (pv 3) (fun _ _ => rfl)) (pe_op op_mul (pv 1) (pe_ix (kIx K) (pe_op op_cat (pe_lst (pa_cons pe_int pa_nil)) (pv 0)) (pv 3) (fun _ _ => rfl)))))))))), ?_⟩
    refine q_when (b := decide (m = 0)) (by walk_at "ev") (fun hb H1 e1 => ?_) fun hb H1 e1 => ?_
    · have hm : m = 0 := of_decide_eq_true hb
      refine s_retL (xs := g.map V.int) (by walk_at "ev") fun p H2 hp e2 h2 => k p H2 (fresh_back e1 hp) (e1.trans e2) ?_
      rw [h2]
      unfold wp
      rw [if_pos hm]
    · have hm : ¬ m = 0 := of_decide_eq_false hb
      refine q_asgL (xs := (g ++ [0]).map V.int) (el_is (el_cat (xs := g.map V.int) (ys := [V.int 0]) (by walk_at "ev") (by walk_at "ev"; decide) (by simp; omega)) (ints_snoc g 0)) fun p H2 hp e2 h2 => ?_
      have ha2 : H2 a = some (.lst (g.map V.int)) := e2 _ _ (e1 _ _ ha)
      refine s_retL (el_lcRg (n := ((g.length + 1 : Nat) : Int)) (fun _ => true) (fun k => V.int (cf (g ++ [0]) k + m * cf (0 :: g) k)) (ea_cons (ev_is (ev_lenR (er_var rfl (sq_of h2))) ?_) ea_nil) (by omega) (by omega) (fun _ => rfl) (fun _ _ _ _ => et_yes) ?_) fun q H3 hq e3 h3 => ?_
      · rw [ints_len, List.length_append]
        rfl
      · intro i H3 hi _ e3
        have c1 : (g ++ [0])[i]? = some (cf (g ++ [0]) i) := cf_get (by simp; omega)
        have c2 : (0 :: g)[i]? = some (cf (0 :: g) i) := cf_get (by simp; omega)
        refine ev_I0 (ev_ixR (er_var rfl (sq_of (e3 _ _ h2))) (ev_var rfl) (at_int rfl c1)) (ev_I (ev_var rfl) (ev_ixR (er_of (es_new (el_is (el_cat (xs := [V.int 0]) (ys := g.map V.int) (by walk_at "ev"; decide) (es_var rfl (e3 _ _ ha2)) (by simp; omega)) (ys := (0 :: g).map V.int) rfl))) (ev_var rfl) (at_int rfl c2)) (Or.inl ⟨by omega, by omega⟩))
      · refine k q H3 (fresh_back (e1.trans e2) hq) ((e1.trans e2).trans e3) ?_
        rw [h3, filter_yes]
        unfold wp
        rw [if_neg hm, List.map_map]
        have e : (((g.length + 1 : Nat) : Int)).toNat = g.length + 1 := by omega
        rw [e]
        rfl
/-! ### shunners -/
theorem sc_shunners : FnScope ["shuns", "found", "seat"] ["shuns"] (defScope (topS 12)) :=
  ⟨rfl, rfl, rfl, by decide +kernel, rfl, by decide +kernel, by decide +kernel⟩

def spShunners : Sp := fun vs H Q _ => ∃ (a : Addr) (g : List Int), vs = [.ref a] ∧ H a = some (.lst (g.map V.int)) ∧ Ok g ∧ RetL ((marks g.length g).map V.int) H Q
theorem ok_shunners {f : Addr} {fd : FuncData} (F : Fun K "shunners" "shunners" (topS 12) f fd) (B : Bi mg) : FnOk P w K mg base CX0 1 f fd ["shuns"] spShunners := by
  refine F.ok sc_shunners (fun vs H Q E h => ?_) (fun cdv A outer s H vs Q E hr h => ?_)
  · obtain ⟨a, g, rfl, _⟩ := h
    rfl
  · obtain ⟨a, g, rfl, ha, ⟨hg, hz⟩, k⟩ := h
    refine ⟨_, (pss_cons (ps_set (i := 1) sc_shunners.nd rfl (Or.inl rfl) (pe_op op_rep (pe_lst (pa_cons pe_int pa_nil)) (pe_callB (kLen K) (by rfl) B.len PySem.boot_len (pa_cons (pv 0) pa_nil))))
 (pss_cons (ps_for PassesOwn.never rfl (kpList K (pv 0)) (pg_name (i := 2) sc_shunners.nd rfl (Or.inl rfl))
 (pss_one (ps_if (pt_cmpR op_ge (pv 2) pe_int (nomark _))
 (pss_one (ps_augS (pv 1) (pv 2) (kGet K) pe_int ip_add set_list))
 pss_nil)))
 (pss_one (ps_ret (pv 1))))), ?_⟩
    refine q_asgL (xs := (marks g.length []).map V.int) (el_is (el_rep (x := V.int 0) (k := (g.length : Int)) (by walk_at "ev"; decide) (ev_is (ev_lenR (er_var rfl (sq_of ha))) (by rw [ints_len])) (by omega) (by omega)) ?_) fun p H1 hp e1 h1 => ?_
    · rw [marks_nil, List.map_replicate]
      rfl
    refine q_forLn (xs := g.map V.int) (ev_var rfl) (sq_of (e1 _ _ ha)) (fun i σ' H' => (∃ v, σ' = [some (.ref a), some (.ref p), v]) ∧ Ex H H' ∧ H' p = some (.lst ((marks g.length (g.take i)).map V.int)))
      (fun H2 e2 => ⟨⟨_, rfl⟩, e1.trans e2, e2 _ _ h1⟩) (fun i σ' H' _ q => sq_of (q.2.1 _ _ ha)) ?_ ?_
    · rintro i x σ' H' hx ⟨⟨v, rfl⟩, eH, hl⟩
      obtain ⟨n, hn, rfl⟩ := of_ints hx
      have hi := (List.getElem?_eq_some_iff.mp hn).1
      obtain ⟨g1, g2⟩ := hg n (List.mem_of_getElem? hn)
      have tk : g.take (i + 1) = g.take i ++ [n] := by rw [List.take_add_one, hn]; rfl
      refine s_when (b := decide (0 ≤ n)) (by walk_at "ev") (fun hb H2 e2 => ?_) fun hb H2 e2 => ?_
      · have h0 : 0 ≤ n := of_decide_eq_true hb
        obtain ⟨j, rfl⟩ : ∃ j : Nat, n = (j : Int) := ⟨n.toNat, by omega⟩
        have hj : j < g.length := by omega
        refine s_augO (j := j) (a := ct (j : Int) (g.take i)) (b := 1) hp (eH.trans e2) (e2 _ _ hl) (ev_var rfl) (ev_var rfl) (ints_at (marks_get _ hj)) ev_c fun H3 e3 h3 _ => ⟨⟨_, rfl⟩, e3, ?_⟩
        rw [h3, ints_set, tk, marks_snoc _ hj]
      · have h0 : ¬ 0 ≤ n := of_decide_eq_false hb
        refine ⟨⟨_, rfl⟩, eH.trans e2, ?_⟩
        rw [tk, marks_out _ (by omega)]
        exact e2 _ _ hl
    · rintro σ' H' ⟨⟨v, rfl⟩, eH, hl⟩
      rw [ints_len, List.take_length] at hl
      exact s_ret (ev_var rfl) fun H2 e2 => k p H2 hp (eH.trans e2) (e2 _ _ hl)
/-! ### sums_of -/
theorem sc_sums_of : FnScope ["marks", "found", "many"] ["marks"] (defScope (topS 13)) :=
  ⟨rfl, rfl, rfl, by decide +kernel, rfl, by decide +kernel, by decide +kernel⟩

def spSums : Sp := fun vs H Q _ => ∃ (a : Addr) (l : List Int), vs = [.ref a] ∧ H a = some (.lst (l.map V.int)) ∧ (∀ m ∈ l, 0 ≤ m ∧ m ≤ 63) ∧ l.length ≤ 64 ∧ RetL ((sm l).map V.int) H Q
theorem ok_sums_of {f fw : Addr} {fd fdw : FuncData} (F : Fun K "sums_of" "sums_of" (topS 13) f fd) (B : Bi mg) (D_with_part : Df P w K mg base CX0 1 "with_part" fw fdw ["sums", "many"] spWith) : FnOk P w K mg base CX0 2 f fd ["marks"] spSums := by
  refine F.ok sc_sums_of (fun vs H Q E h => ?_) (fun cdv A outer s H vs Q E hr h => ?_)
  · obtain ⟨a, l, rfl, _⟩ := h
    rfl
  · obtain ⟨a, l, rfl, ha, hm, hz, k⟩ := h
    refine ⟨_, (pss_cons (ps_set (i := 1) sc_sums_of.nd rfl (Or.inl rfl) (pe_lst (pa_cons pe_int pa_nil)))
 (pss_cons (ps_for PassesOwn.never rfl (kpList K (pv 0)) (pg_name (i := 2) sc_sums_of.nd rfl (Or.inl rfl))
 (pss_one (ps_set (i := 1) sc_sums_of.nd rfl (Or.inl rfl) (pe_call D_with_part.ok (hr.mono (by decide)) (by rfl) D_with_part.g D_with_part.kp D_with_part.b .nil pass0 (pa_cons (pv 1) (pa_cons (pv 2) pa_nil))))))
 (pss_one (ps_ret (pv 1))))), ?_⟩
    refine q_asgL (xs := [V.int 1]) (by walk_at "ev"; decide) fun p H1 hp e1 h1 => ?_
    refine q_forLn (xs := l.map V.int) (ev_var rfl) (sq_of (e1 _ _ ha)) (fun i σ' H' => ∃ p v, σ' = [some (.ref a), some (.ref p), v] ∧ Ex H H' ∧ H p = none ∧ H' p = some (.lst ((sm (l.take i)).map V.int)))
      (fun H2 e2 => ⟨p, _, rfl, e1.trans e2, hp, e2 _ _ h1⟩) (fun i σ' H' _ ⟨_, _, _, q, _⟩ => sq_of (q _ _ ha)) ?_ ?_
    · rintro i x σ' H' hx ⟨p, v, rfl, eH, hp, hl⟩
      obtain ⟨m, hn, rfl⟩ := of_ints hx
      have hi := (List.getElem?_eq_some_iff.mp hn).1
      obtain ⟨g1, g2⟩ := hm m (List.mem_of_getElem? hn)
      have hs := sm_len (l.take i)
      rw [List.length_take] at hs
      refine s_asgL (xs := (wp (sm (l.take i)) m).map V.int) (el_callB (eb_s (es_var rfl hl) (eb_v (ev_var rfl) eb_nil)) fun vs H2 e2 ⟨p', r, e3, h3, r', e4, e5⟩ Q k => ?_) fun q H2 hq e2 h2 => ⟨q, _, rfl, eH.trans e2, fresh_back eH hq, ?_⟩
      · subst e5 e4
        exact ⟨p', _, m, e3, h3, by omega, ⟨g1, by omega⟩, k⟩
      · rw [h2, List.take_add_one, hn]
        show _ = some (HO.lst (((l.take i ++ [m]).foldl wp [1]).map V.int))
        rw [List.foldl_append]
        rfl
    · rintro σ' H' ⟨p, v, rfl, eH, hp, hl⟩
      rw [ints_len, List.take_length] at hl
      exact s_ret (ev_var rfl) fun H2 e2 => k p H2 hp (eH.trans e2) (e2 _ _ hl)
end
section
variable {P : Program} {w : World} {K : PySem.W.Frag} {mg : Str → Option Value} {base : Heap}
theorem call_orders {σ : L2.St} {H : Hp} {te : TE} {n : Nat} {E : XK} (h : Ev te σ H (.int (n : Int))) (hn : n ≤ 64) : EvL (tCall spOrders [] E (tCons te tNil)) σ H ((lst fac 0 (n + 1)).map V.int) :=
  el_callB (eb_v h eb_nil) fun vs H1 e ⟨r, e1, e2⟩ Q k => by
    subst e2
    exact ⟨n, e1, hn, k⟩
theorem call_shunners {σ : L2.St} {H : Hp} {te : TE} {g : List Int} {E : XK} (h : EvS te σ H (g.map V.int)) (ok : Ok g) : EvL (tCall spShunners [] E (tCons te tNil)) σ H ((marks g.length g).map V.int) :=
  el_callB (eb_s h eb_nil) fun vs H1 e ⟨p, r, e1, hp, e2⟩ Q k => by
    subst e2
    exact ⟨p, g, e1, hp, ok, k⟩
theorem call_sums {σ : L2.St} {H : Hp} {te : TE} {l : List Int} {E : XK} (h : EvS te σ H (l.map V.int)) (hm : ∀ m ∈ l, 0 ≤ m ∧ m ≤ 63) (hl : l.length ≤ 64) : EvL (tCall spSums [] E (tCons te tNil)) σ H ((sm l).map V.int) :=
  el_callB (eb_s h eb_nil) fun vs H1 e ⟨p, r, e1, hp, e2⟩ Q k => by
    subst e2
    exact ⟨p, l, e1, hp, hm, hl, k⟩
end


section
variable {P : Program} {w : World} {K : PySem.W.Frag} {mg : Str → Option Value} {base : Heap}
/-! ### _law_cell_at -/
theorem sc_law_cell_at : FnScope ["_law_script", "_law_k"] ["_law_script", "_law_k"] (defScope (topS 27)) :=
  ⟨rfl, rfl, rfl, by decide +kernel, rfl, by decide +kernel, by decide +kernel⟩

def spCell (K : PySem.W.Frag) : Sp := fun vs H Q _ => ∃ (a : Addr) (ns : List Int) (k : Nat), vs = [.ref a, .int (k : Int)] ∧ SqL K H a (ns.map V.int) ∧ RetV (.int (cf ns k)) H Q
theorem ok_cell {f : Addr} {fd : FuncData} (F : Fun K "_law_cell_at" "_law_cell_at" (topS 27) f fd) (B : Bi mg) : FnOk P w K mg base CX0 1 f fd ["_law_script", "_law_k"] (spCell K) := by
  refine F.ok sc_law_cell_at (fun vs H Q E h => ?_) (fun cdv A outer s H vs Q E hr h => ?_)
  · obtain ⟨a, ns, k, rfl, _⟩ := h
    rfl
  · obtain ⟨a, ns, k, rfl, ha, q⟩ := h
    refine ⟨_, (pss_cons (ps_if (pt_cmpR op_lt (pv 1) (pe_callB (kLen K) (by rfl) B.len PySem.boot_len (pa_cons (pv 0) pa_nil)) (nomark _))
 (pss_one (ps_ret (pe_ix (kIx K) (pv 0) (pv 1) (fun _ _ => rfl))))
 pss_nil)
 (pss_one (ps_ret pe_int))), ?_⟩
    refine q_when (b := decide ((k : Int) < ((ns.map V.int).length : Int))) (by walk_at "ev") (fun hb H1 e1 => ?_) fun hb H1 e1 => ?_
    · have hk : (k : Int) < ((ns.map V.int).length : Int) := of_decide_eq_true hb
      rw [ints_len] at hk
      exact s_ret (v := .int (cf ns k)) (ev_ixR (er_var rfl (ex_l e1 ha)) (ev_var rfl) (at_int rfl (cf_get (by omega)))) fun H2 e2 => q H2 (e1.trans e2)
    · have hk : ¬ (k : Int) < ((ns.map V.int).length : Int) := of_decide_eq_false hb
      rw [ints_len] at hk
      rw [cf_end (by omega)] at q
      exact s_ret ev_c fun H2 e2 => q H2 (e1.trans e2)
theorem call_cell {σ : L2.St} {H : Hp} {ta tb : TE} {ns : List Int} {k : Nat} {E : XK} (h : EvR K ta σ H (ns.map V.int)) (h2 : Ev tb σ H (.int (k : Int))) : Ev (tCall (spCell K) [] E (tCons ta (tCons tb tNil))) σ H (.int (cf ns k)) :=
  ev_callB (eb_r h (eb_v h2 eb_nil)) fun vs H1 e ⟨p, r, e1, hp, r', e2, e3⟩ Q k' => by
    subst e3 e2
    exact ⟨p, ns, k, e1, hp, k'⟩
/-! ### _law_draw -/
theorem sc_law_draw : FnScope ["_law_cell", "_law_k", "_law_many", "_law_primes"] ["_law_cell", "_law_k", "_law_many"] (defScope (topS 28)) :=
  ⟨rfl, rfl, rfl, by decide +kernel, rfl, by decide +kernel, by decide +kernel⟩

def primes : List Int := [1000003, 1000033, 1000037, 1000039, 1000081, 1000099, 1000117, 1000121, 1000133, 1000151, 1000159, 1000171, 1000183, 1000187, 1000193, 1000199]
def drw (c k m : Int) : Int := (c * 48271 + k * 69621) % cf primes (k % 16).toNat % m
theorem primes_pos : ∀ i, i < 16 → 0 < cf primes i := by decide
theorem drw_ok (c k : Int) {m : Int} (h : 0 < m) : 0 ≤ drw c k m ∧ drw c k m < m := ⟨Int.emod_nonneg _ (by omega), Int.emod_lt_of_pos _ h⟩
def spDraw : Sp := fun vs H Q _ => ∃ c k m : Int, vs = [.int c, .int k, .int m] ∧ 0 ≤ k ∧ 0 < m ∧ RetV (.int (drw c k m)) H Q
theorem ok_draw {f : Addr} {fd : FuncData} (F : Fun K "_law_draw" "_law_draw" (topS 28) f fd) (B : Bi mg) : FnOk P w K mg base CX0 1 f fd ["_law_cell", "_law_k", "_law_many"] spDraw := by
  refine F.ok sc_law_draw (fun vs H Q E h => ?_) (fun cdv A outer s H vs Q E hr h => ?_)
  · obtain ⟨c, k, m, rfl, _⟩ := h
    rfl
  · obtain ⟨c, k, m, rfl, hk, hm, q⟩ := h
    refine ⟨_, (pss_cons (ps_set (i := 3) sc_law_draw.nd rfl (Or.inl rfl) (pe_tup (pa_cons pe_int (pa_cons pe_int (pa_cons pe_int (pa_cons pe_int (pa_cons pe_int (pa_cons pe_int (pa_cons pe_int (pa_cons pe_int (pa_cons pe_int (pa_cons pe_int (pa_cons pe_int (pa_cons pe_int (pa_cons pe_int (pa_cons pe_int (pa_cons pe_int (pa_cons pe_int pa_nil))))))))))))))))))
 (pss_one (ps_ret (pe_op op_mod (pe_op op_mod (pe_op op_add (pe_op op_mul (pv 0) pe_int) (pe_op op_mul (pv 1) pe_int)) (pe_ix (kIxT K) (pv 3) (pe_op op_mod (pv 1) pe_int) (fun _ _ => rfl))) (pv 2))))), ?_⟩
    refine q_asgU (xs := primes.map V.int) (eu_tup (ea_cons ev_c (ea_cons ev_c (ea_cons ev_c (ea_cons ev_c (ea_cons ev_c (ea_cons ev_c (ea_cons ev_c (ea_cons ev_c (ea_cons ev_c (ea_cons ev_c (ea_cons ev_c (ea_cons ev_c (ea_cons ev_c (ea_cons ev_c (ea_cons ev_c (ea_cons ev_c ea_nil)))))))))))))))) (by decide)) fun p H1 hp e1 h1 => ?_
    have hi : (k % 16).toNat < 16 := by omega
    have hg : primes[(k % 16).toNat]? = some (cf primes (k % 16).toNat) := cf_get hi
    refine s_ret (v := .int (drw c k m)) ?_ fun H2 e2 => q H2 (e1.trans e2)
    refine ev_I (ev_I (ev_I0 (ev_I (ev_var rfl) ev_c (Or.inr (by decide))) (ev_I (ev_var rfl) ev_c (Or.inr (by decide)))) (ev_ixTv rfl h1 (ev_I (ev_var rfl) ev_c (by decide)) (at_int (j := (k % 16).toNat) (by omega) hg)) (primes_pos _ hi)) (ev_var rfl) hm
theorem call_draw {σ : L2.St} {H : Hp} {ta tb tc : TE} {c k m : Int} {E : XK} (h : Ev ta σ H (.int c)) (h2 : Ev tb σ H (.int k)) (h3 : Ev tc σ H (.int m)) (hk : 0 ≤ k) (hm : 0 < m) : Ev (tCall spDraw [] E (tCons ta (tCons tb (tCons tc tNil)))) σ H (.int (drw c k m)) :=
  ev_callB (eb_v h (eb_v h2 (eb_v h3 eb_nil))) fun vs H1 e ⟨r, e1, r', e2, r'', e3, e4⟩ Q k' => by
    subst e4 e3 e2
    exact ⟨c, k, m, e1, hk, hm, k'⟩
/-! ### _law_shuns -/
theorem sc_law_shuns : FnScope ["_law_script", "_law_kind", "_law_size", "_law_found", "_law_one", "_law_cell", "_law_k", "_law_seat"] ["_law_script"] (defScope (topS 29)) :=
  ⟨rfl, rfl, rfl, by decide +kernel, rfl, by decide +kernel, by decide +kernel⟩

def sh0 (ns : List Int) : List Int := ns.map fun c => c % ((ns.length : Int) + 1) - 1
def sh1 (ns : List Int) : List Int := if drw (cf ns 0) 6 7 = 1 then (List.range ns.length).map fun k : Nat => ((k : Int) + drw (cf ns 1) 3 (ns.length : Int)) % (ns.length : Int) else sh0 ns
def sh2 (ns : List Int) : List Int := if drw (cf ns 0) 6 7 = 2 then (sh1 ns).map fun s => if (2 : Int) < (ns.length : Int) then s % 3 else s else sh1 ns
def one4 (ns : List Int) : Int := drw (cf ns 1) 4 (if (ns.length : Int) > 1 then (ns.length : Int) else 1)
def sh3 (ns : List Int) : List Int := if drw (cf ns 0) 6 7 ∈ [3, 4] then ns.map fun c => if drw (cf ns 0) 6 7 = 3 ∨ 0 < c / 7 % 9 then one4 ns else c % ((ns.length : Int) + 1) - 1 else sh2 ns
def shn (ns : List Int) : List Int := if drw (cf ns 0) 6 7 = 5 then (prs (sh3 ns)).map fun p => if cf ns p.1 / 3 % 3 = 0 then p.2 else -1 else sh3 ns
/-- of so many, each a seat or none -/
def Okn (n : Nat) (l : List Int) : Prop := l.length = n ∧ ∀ x ∈ l, -1 ≤ x ∧ x < (n : Int)
theorem sh0_ok (ns : List Int) : Okn ns.length (sh0 ns) := ⟨List.length_map _, fun x hx => by
  obtain ⟨c, _, rfl⟩ := List.mem_map.mp hx
  have h1 := Int.emod_nonneg c (b := (ns.length : Int) + 1) (by omega)
  have h2 := Int.emod_lt_of_pos c (b := (ns.length : Int) + 1) (by omega)
  omega⟩
theorem sh1_ok (ns : List Int) : Okn ns.length (sh1 ns) := by
  unfold sh1
  split
  · refine ⟨by rw [List.length_map, List.length_range], fun x hx => ?_⟩
    obtain ⟨k, hk, rfl⟩ := List.mem_map.mp hx
    have hk := List.mem_range.mp hk
    have h1 := Int.emod_nonneg ((k : Int) + drw (cf ns 1) 3 (ns.length : Int)) (b := (ns.length : Int)) (by omega)
    have h2 := Int.emod_lt_of_pos ((k : Int) + drw (cf ns 1) 3 (ns.length : Int)) (b := (ns.length : Int)) (by omega)
    omega
  · exact sh0_ok ns
theorem sh2_ok (ns : List Int) : Okn ns.length (sh2 ns) := by
  obtain ⟨h1, h2⟩ := sh1_ok ns
  unfold sh2
  split
  · refine ⟨by rw [List.length_map]; exact h1, fun x hx => ?_⟩
    obtain ⟨s, hs, rfl⟩ := List.mem_map.mp hx
    have := h2 s hs
    show -1 ≤ (if (2 : Int) < (ns.length : Int) then s % 3 else s) ∧ (if (2 : Int) < (ns.length : Int) then s % 3 else s) < (ns.length : Int)
    split
    · omega
    · omega
  · exact ⟨h1, h2⟩
theorem one4_ok {ns : List Int} (h : 0 < ns.length) : 0 ≤ one4 ns ∧ one4 ns < (ns.length : Int) := by
  unfold one4
  by_cases c : (ns.length : Int) > 1
  · rw [if_pos c]
    exact drw_ok _ _ (by omega)
  · rw [if_neg c]
    have := drw_ok (cf ns 1) 4 (m := 1) (by decide)
    omega
theorem sh3_ok (ns : List Int) : Okn ns.length (sh3 ns) := by
  unfold sh3
  split
  · refine ⟨List.length_map _, fun x hx => ?_⟩
    obtain ⟨c, hc, rfl⟩ := List.mem_map.mp hx
    have h0 : 0 < ns.length := List.length_pos_of_mem hc
    have h1 := Int.emod_nonneg c (b := (ns.length : Int) + 1) (by omega)
    have h2 := Int.emod_lt_of_pos c (b := (ns.length : Int) + 1) (by omega)
    have h3 := one4_ok h0
    show -1 ≤ (if drw (cf ns 0) 6 7 = 3 ∨ 0 < c / 7 % 9 then one4 ns else c % ((ns.length : Int) + 1) - 1) ∧ (if drw (cf ns 0) 6 7 = 3 ∨ 0 < c / 7 % 9 then one4 ns else c % ((ns.length : Int) + 1) - 1) < (ns.length : Int)
    split <;> omega
  · exact sh2_ok ns
theorem prs_mem {ns : List Int} {i : Nat} {n : Int} (h : (i, n) ∈ prs ns) : ns[i]? = some n := by
  unfold prs at h
  obtain ⟨k, hk, e⟩ := List.mem_map.mp h
  have hk := List.mem_range.mp hk
  cases e
  rw [List.getElem?_eq_getElem hk, List.getD_eq_getElem?_getD, List.getElem?_eq_getElem hk]
  rfl
theorem shn_ok (ns : List Int) : Okn ns.length (shn ns) := by
  obtain ⟨h1, h2⟩ := sh3_ok ns
  unfold shn
  split
  · refine ⟨by rw [List.length_map, prs_len]; exact h1, fun x hx => ?_⟩
    obtain ⟨⟨i, s⟩, hp, rfl⟩ := List.mem_map.mp hx
    have hg := prs_mem hp
    have hi := (List.getElem?_eq_some_iff.mp hg).1
    have := h2 s (List.mem_of_getElem? hg)
    show -1 ≤ (if cf ns i / 3 % 3 = 0 then s else -1) ∧ (if cf ns i / 3 % 3 = 0 then s else -1) < (ns.length : Int)
    split <;> omega
  · exact ⟨h1, h2⟩
theorem shn_Ok {ns : List Int} (h : ns.length ≤ 63) : Ok (shn ns) := by
  obtain ⟨h1, h2⟩ := shn_ok ns
  exact ⟨fun x hx => by rw [h1]; exact h2 x hx, by omega⟩
def spShuns (K : PySem.W.Frag) : Sp := fun vs H Q _ => ∃ (a : Addr) (ns : List Int), vs = [.ref a] ∧ SqL K H a (ns.map V.int) ∧ ns.length ≤ 63 ∧ RetL ((shn ns).map V.int) H Q
theorem cut63 {ns : List Int} (h : ns.length ≤ 63) : cutV (ns.map V.int) none (some 63) = ns.map V.int := by
  unfold cutV
  have e : HT.sIx (ns.map V.int).length (ns.map V.int).length (some 63) = (ns.map V.int).length := by
    rw [show (63 : Int) = ((63 : Nat) : Int) from rfl, HT.sIx_nat, ints_len]
    omega
  rw [HT.sIx_none, e, List.drop_zero, Nat.sub_zero, List.take_length]
theorem ifc {α β : Type} (f : α → β) {c : Prop} [Decidable c] (a b : α) : f (if c then a else b) = if decide c = true then f a else f b := by
  by_cases h : c
  · rw [if_pos h, if_pos (decide_eq_true h)]
  · rw [if_neg h, if_neg (by rw [decide_eq_false h]; exact Bool.false_ne_true)]
/-- e1 if c else e2 -/
theorem ev_ite {σ : L2.St} {H : Hp} {t : TT} {ta tb : TE} {b : Bool} {x y : V} (h : EvT t σ H b) (h1 : b = true → Ev ta σ H x) (h2 : b = false → Ev tb σ H y) : Ev (tIf t ta tb) σ H (if b = true then x else y) :=
  ev_if h (fun hb => by rw [if_pos hb]; exact h1 hb) (fun hb => by rw [hb, if_neg Bool.false_ne_true]; exact h2 hb)
theorem ok_shuns {f f1 f2 : Addr} {fd fd1 fd2 : FuncData} (F : Fun K "_law_shuns" "_law_shuns" (topS 29) f fd) (B : Bi mg) (D_law_cell_at : Df P w K mg base CX0 1 "_law_cell_at" f1 fd1 ["_law_script", "_law_k"] (spCell K))
    (D_law_draw : Df P w K mg base CX0 1 "_law_draw" f2 fd2 ["_law_cell", "_law_k", "_law_many"] spDraw) : FnOk P w K mg base CX0 2 f fd ["_law_script"] (spShuns K) := by
  refine F.ok sc_law_shuns (fun vs H Q E h => ?_) (fun cdv A outer s H vs Q E hr h => ?_)
  · obtain ⟨a, ns, rfl, _⟩ := h
    rfl
  · obtain ⟨a, ns, rfl, ha, hz, q⟩ := h
    refine ⟨_, (pss_cons (ps_set (i := 0) sc_law_shuns.nd rfl (Or.inr rfl) (pe_slice (kSl K) (pv 0) po_none (po_some pe_int)))
 (pss_cons (ps_asg (pe_tup (pa_cons (pe_call D_law_draw.ok (hr.mono (by decide)) (by rfl) D_law_draw.g D_law_draw.kp D_law_draw.b .nil pass0 (pa_cons (pe_call D_law_cell_at.ok (hr.mono (by decide)) (by rfl) D_law_cell_at.g D_law_cell_at.kp D_law_cell_at.b .nil pass0 (pa_cons (pv 0) (pa_cons pe_int pa_nil))) (pa_cons pe_int (pa_cons pe_int pa_nil)))) (pa_cons (pe_callB (kLen K) (by rfl) B.len PySem.boot_len (pa_cons (pv 0) pa_nil)) pa_nil))) (kgTup (n := 2) K (pgs_cons (pg_name (i := 1) sc_law_shuns.nd rfl (Or.inr rfl)) (pgs_cons (pg_name (i := 2) sc_law_shuns.nd rfl (Or.inr rfl)) pgs_nil))))
 (pss_cons (ps_setLc (i := 3) (own := [("_law_cell", 5)]) (by rfl) sc_law_shuns.nd rfl rfl (sw_true rfl rfl rfl (by decide +kernel)) (kpList K (pv 0)) (blkOk_by (own := [("_law_cell", 5)]) (N := ["_law_script", "_law_kind", "_law_size", "_law_found", "_law_one", "_law_cell", "_law_k", "_law_seat"]) (sc := defScope (topS 29)) (by decide +kernel)) (fun _ _ _ _ _ => (pg_name (i := 5) sc_law_shuns.nd rfl (Or.inl rfl))) (fun _ _ _ _ _ => pts_nil) (fun _ _ _ _ _ => (pe_op op_sub (pe_op op_mod (pv 5) (pe_op op_add (pv 2) pe_int)) pe_int)))
 (pss_cut (ps_if (pt_cmpR op_eq (pv 1) pe_int (nomark _))
 (pss_one (ps_setLc (i := 3) (own := [("_law_k", 6)]) (by rfl) sc_law_shuns.nd rfl rfl (sw_true rfl rfl rfl (by decide +kernel)) (pi_range1 (by rfl) B.range (pa_cons (pv 2) pa_nil)) (blkOk_by (own := [("_law_k", 6)]) (N := ["_law_script", "_law_kind", "_law_size", "_law_found", "_law_one", "_law_cell", "_law_k", "_law_seat"]) (sc := defScope (topS 29)) (by decide +kernel)) (fun _ _ _ _ _ => (pg_name (i := 6) sc_law_shuns.nd rfl (Or.inl rfl))) (fun _ _ _ _ _ => pts_nil) (fun _ _ _ _ _ => (pe_op op_mod (pe_op op_add (pv 6) (pe_call D_law_draw.ok (hr.mono (by decide)) (by rfl) D_law_draw.g D_law_draw.kp D_law_draw.b .nil pass0 (pa_cons (pe_call D_law_cell_at.ok (hr.mono (by decide)) (by rfl) D_law_cell_at.g D_law_cell_at.kp D_law_cell_at.b .nil pass0 (pa_cons (pv 0) (pa_cons pe_int pa_nil))) (pa_cons pe_int (pa_cons (pv 2) pa_nil))))) (pv 2)))))
 pss_nil)
 (pss_cut (ps_if (pt_cmpR op_eq (pv 1) pe_int (nomark _))
 (pss_one (ps_setLc (i := 3) (own := [("_law_seat", 7)]) (by rfl) sc_law_shuns.nd rfl rfl (sw_true rfl rfl rfl (by decide +kernel)) (kpList K (pv 3)) (blkOk_by (own := [("_law_seat", 7)]) (N := ["_law_script", "_law_kind", "_law_size", "_law_found", "_law_one", "_law_cell", "_law_k", "_law_seat"]) (sc := defScope (topS 29)) (by decide +kernel)) (fun _ _ _ _ _ => (pg_name (i := 7) sc_law_shuns.nd rfl (Or.inl rfl))) (fun _ _ _ _ _ => pts_nil) (fun _ _ _ _ _ => (pe_ifExp (pt_cmpR op_gt (pv 2) pe_int (nomark _)) (pe_op op_mod (pv 7) pe_int) (pv 7)))))
 pss_nil)
 (pss_cut (ps_if (pt_cmpR (kIn K) (pv 1) (pe_tup (pa_cons pe_int (pa_cons pe_int pa_nil))) (by rfl))
 (pss_cons (ps_set (i := 4) sc_law_shuns.nd rfl (Or.inr rfl) (pe_call D_law_draw.ok (hr.mono (by decide)) (by rfl) D_law_draw.g D_law_draw.kp D_law_draw.b .nil pass0 (pa_cons (pe_call D_law_cell_at.ok (hr.mono (by decide)) (by rfl) D_law_cell_at.g D_law_cell_at.kp D_law_cell_at.b .nil pass0 (pa_cons (pv 0) (pa_cons pe_int pa_nil))) (pa_cons pe_int (pa_cons (pe_callB kMax2 (by rfl) B.max (by decide +kernel) (pa_cons pe_int (pa_cons (pv 2) pa_nil))) pa_nil)))))
 (pss_one (ps_setLc (i := 3) (own := [("_law_cell", 5)]) (by rfl) sc_law_shuns.nd rfl rfl (sw_true rfl rfl rfl (by decide +kernel)) (kpList K (pv 0)) (blkOk_by (own := [("_law_cell", 5)]) (N := ["_law_script", "_law_kind", "_law_size", "_law_found", "_law_one", "_law_cell", "_law_k", "_law_seat"]) (sc := defScope (topS 29)) (by decide +kernel)) (fun _ _ _ _ _ => (pg_name (i := 5) sc_law_shuns.nd rfl (Or.inl rfl))) (fun _ _ _ _ _ => pts_nil) (fun _ _ _ _ _ => (pe_ifExp (PW.pt (pw_or (pt_cmpR op_eq (pv 1) pe_int (nomark _)) (pw_or1 (pt_cmpR op_gt (pe_op op_mod (pe_op op_fdiv (pv 5) pe_int) pe_int) pe_int (nomark _))))) (pv 4) (pe_op op_sub (pe_op op_mod (pv 5) (pe_op op_add (pv 2) pe_int)) pe_int))))))
 pss_nil)
 (pss_cut (ps_if (pt_cmpR op_eq (pv 1) pe_int (nomark _))
 (pss_one (ps_setLc (i := 3) (own := [("_law_k", 6), ("_law_seat", 7)]) (by rfl) sc_law_shuns.nd rfl rfl (sw_true rfl rfl rfl (by decide +kernel)) (kpEnum K (by rfl) B.enumerate (pa_cons (pv 3) pa_nil)) (blkOk_by (own := [("_law_k", 6), ("_law_seat", 7)]) (N := ["_law_script", "_law_kind", "_law_size", "_law_found", "_law_one", "_law_cell", "_law_k", "_law_seat"]) (sc := defScope (topS 29)) (by decide +kernel)) (fun _ _ _ _ _ => (kgTup (n := 2) K (pgs_cons (pg_name (i := 6) sc_law_shuns.nd rfl (Or.inl rfl)) (pgs_cons (pg_name (i := 7) sc_law_shuns.nd rfl (Or.inl rfl)) pgs_nil)))) (fun _ _ _ _ _ => pts_nil) (fun _ _ _ _ _ => (pe_ifExp (pt_cmpR op_eq (pe_op op_mod (pe_op op_fdiv (pe_ix (kIx K) (pv 0) (pv 6) (fun _ _ => rfl)) pe_int) pe_int) pe_int (nomark _)) (pv 7) (pe_un un_neg pe_int)))))
 pss_nil)
 (pss_one (ps_ret (pv 3)))))))))), ?_⟩
    refine q_asgL (xs := ns.map V.int) (el_is (el_sli (er_var rfl ha) eo_none (eo_some ev_c)) (cut63 hz)) fun a1 H1 hp1 e1 h1 => ?_
    refine q_tup2 (eb_v (call_draw (call_cell (k := 0) (er_var rfl (sq_of h1)) ev_c) ev_c ev_c (by decide) (by decide)) (eb_v (ev_is (ev_lenR (er_var rfl (sq_of h1))) (by rw [ints_len])) eb_nil)) ?_ ?_
    · rintro vs H1 ⟨r, rfl, r', rfl, rfl⟩
      rfl
    rintro x y H2 H3 e2 ⟨r, ex, r', ex', ex''⟩ e3
    subst ex''
    cases ex'
    cases ex
    have e13 := e2.trans e3
    have g1 := e13 _ _ h1
    refine q_asgL (xs := (sh0 ns).map V.int) (el_is (el_lcI (ns := ns) (fun _ => true) (fun c => V.int (c % ((ns.length : Int) + 1) - 1)) (er_var rfl (sq_of g1)) (by omega) (fun _ => rfl) (fun _ _ _ _ => et_yes) fun n H4 _ _ e4 => ?_) ?_) fun p4 H4 hp4 e4 h4 => ?_
    · exact ev_I0 (ev_I (ev_var rfl) (ev_I0 (ev_var rfl) ev_c) (by omega)) ev_c
    · rw [filter_yes]
      unfold sh0
      rw [List.map_map]
      rfl
    have e04 : Ex H H4 := (e1.trans e13).trans e4
    have hp4' := fresh_back (e1.trans e13) hp4
    have g14 := e4 _ _ g1
    have hcell : ∀ {σ : L2.St} {H' : Hp} {te : TE} {k : Nat}, EvR K te σ H' (ns.map V.int) → Ev (tCall (spCell K) [] E0 (tCons te (tCons (tC (.int (k : Int))) tNil))) σ H' (.int (cf ns k)) := fun h => call_cell h ev_c
    -- kind 1
    refine q_ifL (b := decide (drw (cf ns 0) 6 7 = 1)) (by walk_at "ev") e04 rfl hp4' h4 (fun _ => el_lcRg (n := (ns.length : Int)) (fun _ => true) (fun k => V.int (((k : Int) + drw (cf ns 1) 3 (ns.length : Int)) % (ns.length : Int))) (by walk_at "ev") (by omega) (by omega) (fun _ => rfl) (fun _ _ _ _ => et_yes) fun i H5 hi _ e5 => ?_) fun p5 H5 e5 hp5 h5 => ?_
    · exact ev_I (ev_I0 (ev_var rfl) (call_draw (hcell (k := 1) (er_var rfl (sq_of (e5 _ _ g14)))) ev_c (ev_var rfl) (by decide) (by omega))) (ev_var rfl) (by omega)
    have h5' : H5 p5 = some (.lst ((sh1 ns).map V.int)) := by
      rw [h5]
      unfold sh1
      rw [ifc (List.map V.int), filter_yes, List.map_map]
      have e : ((ns.length : Int)).toNat = ns.length := by omega
      rw [e]
      rfl
    -- kind 2
    obtain ⟨l1, _⟩ := sh1_ok ns
    refine q_ifL (b := decide (drw (cf ns 0) 6 7 = 2)) (by walk_at "ev") (e04.trans e5) rfl hp5 h5' (fun _ => el_lcI (ns := sh1 ns) (fun _ => true) (fun s => if decide ((2 : Int) < (ns.length : Int)) = true then V.int (s % 3) else V.int s) (er_var rfl (sq_of h5')) (by omega) (fun _ => rfl) (fun _ _ _ _ => et_yes) fun n H6 hn _ e6 => ?_) fun p6 H6 e6 hp6 h6 => ?_
    · exact ev_ite (by walk_at "ev") (fun _ => ev_I (ev_var rfl) ev_c (by decide)) fun _ => ev_var rfl
    have h6' : H6 p6 = some (.lst ((sh2 ns).map V.int)) := by
      rw [h6]
      unfold sh2
      rw [ifc (List.map V.int), filter_yes, List.map_map]
      congr 4
      funext s
      exact (ifc V.int _ _).symm
    have g16 := e6 _ _ (e5 _ _ g14)
    have e06 := (e04.trans e5).trans e6
    obtain ⟨l2, _⟩ := sh2_ok ns
    -- kinds 3 and 4
    refine q_cut (M := fun σ' H' => ∃ p v, σ' = [some (.ref a1), some (.int (drw (cf ns 0) 6 7)), some (.int (ns.length : Int)), some (.ref p), v, none, none, none] ∧ Ex H6 H' ∧ H p = none ∧ H' p = some (.lst ((sh3 ns).map V.int))) ?_ ?_
    · refine s_when (b := decide (drw (cf ns 0) 6 7 ∈ [3, 4])) (et_test (ev_inI (ns := [3, 4]) (ev_var rfl) (ea_cons ev_c (ea_cons ev_c ea_nil)) (by decide))) (fun hb H7 e7 => ?_) fun hb H7 e7 => ?_
      · have hk : drw (cf ns 0) 6 7 ∈ [3, 4] := of_decide_eq_true hb
        refine q_asg (v := .int (one4 ns)) (call_draw (hcell (k := 1) (er_var rfl (sq_of (e7 _ _ g16)))) ev_c (ev_mx2 ev_c (ev_var rfl)) (by decide) (by split <;> omega)) fun H8 e8 => ?_
        have g18 := e8 _ _ (e7 _ _ g16)
        refine s_asgL (el_lcI (ns := ns) (fun _ => true) (fun c => if (decide (drw (cf ns 0) 6 7 = 3) || decide (0 < c / 7 % 9)) = true then V.int (one4 ns) else V.int (c % ((ns.length : Int) + 1) - 1)) (er_var rfl (sq_of g18)) (by omega) (fun _ => rfl) (fun _ _ _ _ => et_yes) fun n H9 hn _ e9 => ?_) fun p9 H9 hp9 e9 h9 => ⟨p9, _, rfl, (e7.trans e8).trans e9, fresh_back ((e06.trans e7).trans e8) hp9, ?_⟩
        · refine ev_ite (et_or (et_test (ev_eqI (ev_var rfl) ev_c)) fun _ => et_test (ev_I0 (ev_I (ev_I (ev_var rfl) ev_c ⟨by decide, by decide⟩) ev_c (by decide)) ev_c)) (fun _ => ev_var rfl) fun _ => ev_I0 (ev_I (ev_var rfl) (ev_I0 (ev_var rfl) ev_c) (by omega)) ev_c
        · rw [h9, filter_yes]
          unfold sh3
          rw [if_pos hk, List.map_map]
          congr 3
          funext c
          by_cases c1 : drw (cf ns 0) 6 7 = 3 ∨ 0 < c / 7 % 9
          · show _ = V.int (if drw (cf ns 0) 6 7 = 3 ∨ 0 < c / 7 % 9 then one4 ns else c % ((ns.length : Int) + 1) - 1)
            rw [if_pos c1, if_pos (by simpa using c1)]
          · show _ = V.int (if drw (cf ns 0) 6 7 = 3 ∨ 0 < c / 7 % 9 then one4 ns else c % ((ns.length : Int) + 1) - 1)
            rw [if_neg c1, if_neg (by simpa using c1)]
      · have hk : ¬ drw (cf ns 0) 6 7 ∈ [3, 4] := of_decide_eq_false hb
        refine ⟨p6, none, rfl, e7, hp6, ?_⟩
        unfold sh3
        rw [if_neg hk]
        exact e7 _ _ h6'
    · rintro σ' H7 ⟨p7, v7, rfl, e7, hp7, h7⟩
      obtain ⟨l3, _⟩ := sh3_ok ns
      have g17 := e7 _ _ g16
      refine q_ifL (b := decide (drw (cf ns 0) 6 7 = 5)) (by walk_at "ev") (e06.trans e7) rfl hp7 h7 (fun _ => el_lcEn (ns := sh3 ns) (fun _ => true) (fun p => if decide (cf ns p.1 / 3 % 3 = 0) = true then V.int p.2 else V.int (-1)) (er_var rfl (sq_of h7)) (by omega) (fun _ _ => rfl) (fun _ _ _ _ _ => et_yes) fun i n H8 hn _ e8 => ?_) fun p8 H8 e8 hp8 h8 => ?_
      · have hi := (List.getElem?_eq_some_iff.mp hn).1
        exact ev_ite (et_test (ev_eqI (ev_I (ev_I (ev_ixR (er_var rfl (sq_of (e8 _ _ g17))) (ev_var rfl) (at_int rfl (cf_get (by omega)))) ev_c ⟨by decide, by decide⟩) ev_c (by decide)) ev_c)) (fun _ => ev_var rfl) fun _ => ev_U_neg ev_c
      refine s_ret (ev_var rfl) fun H9 e9 => q p8 H9 hp8 (((e06.trans e7).trans e8).trans e9) ?_
      rw [e9 _ _ h8]
      unfold shn
      rw [ifc (List.map V.int), filter_yes, List.map_map]
      congr 4
      funext p
      exact (ifc V.int _ _).symm
theorem call_shuns {σ : L2.St} {H : Hp} {te : TE} {ns : List Int} {E : XK} (h : EvR K te σ H (ns.map V.int)) (hz : ns.length ≤ 63) : EvL (tCall (spShuns K) [] E (tCons te tNil)) σ H ((shn ns).map V.int) :=
  el_callB (eb_r h eb_nil) fun vs H1 e ⟨p, r, e1, hp, e2⟩ Q k => by
    subst e2
    exact ⟨p, ns, e1, hp, hz, k⟩
end


section
variable {P : Program} {w : World} {K : PySem.W.Frag} {mg : Str → Option Value} {base : Heap}
/-! ### lists of lists -/
inductive Ls (H : Hp) : List V → List (List Int) → Prop
  | nil : Ls H [] []
  | cons {p : Addr} {o : List Int} {vs : List V} {os : List (List Int)} : H p = some (.lst (o.map V.int)) → Ls H vs os → Ls H (.ref p :: vs) (o :: os)
theorem Ls.mono {H H' : Hp} (e : Ex H H') : ∀ {vs : List V} {os : List (List Int)}, Ls H vs os → Ls H' vs os
  | _, _, .nil => .nil
  | _, _, .cons h t => .cons (e _ _ h) (t.mono e)
theorem Ls.app {H : Hp} : ∀ {vs us : List V} {os ps : List (List Int)}, Ls H vs os → Ls H us ps → Ls H (vs ++ us) (os ++ ps)
  | _, _, _, _, .nil, h => h
  | _, _, _, _, .cons h t, q => .cons h (t.app q)
theorem Ls.len {H : Hp} : ∀ {vs : List V} {os : List (List Int)}, Ls H vs os → vs.length = os.length
  | _, _, .nil => rfl
  | _, _, .cons _ t => by rw [List.length_cons, List.length_cons, t.len]
theorem Ls.head {H : Hp} : ∀ {vs : List V} {os : List (List Int)}, Ls H vs os → os ≠ [] → ∃ p r, vs = V.ref p :: r
  | _, _, .nil, h => absurd rfl h
  | _, _, .cons _ _, _ => ⟨_, _, rfl⟩
theorem Ls.get {H : Hp} : ∀ {vs : List V} {os : List (List Int)} {i : Nat} {x : V}, Ls H vs os → vs[i]? = some x → ∃ p o, x = .ref p ∧ os[i]? = some o ∧ H p = some (.lst (o.map V.int))
  | _, _, i, x, .nil, h => by simp at h
  | _, _, 0, x, .cons (p := p) (o := o) h t, e => ⟨p, o, (Option.some.inj e).symm, rfl, h⟩
  | _, _, i + 1, x, .cons h t, e => t.get (i := i) (by simpa using e)
/-- evaluates to a new list of lists -/
def EvN (te : TE) (σ : L2.St) (H : Hp) (os : List (List Int)) : Prop := ∀ H1, Ex H H1 → ∀ Q : VK, (∀ p vs H2, H1 p = none → Ex H1 H2 → H2 p = some (.lst vs) → Ls H2 vs os → Q (.ref p) H2) → te σ H1 Q
section
variable {σ : L2.St} {H H' : Hp} {ta tb te : TE} {D : Ends} {tz : TS}
theorem en_one {o : List Int} (h : EvL te σ H (o.map V.int)) : EvN (tLst (tCons te tNil)) σ H [o] := fun H1 e Q q =>
  h H1 e _ fun p H2 hp e2 h2 => ⟨by show 1 ≤ sizeLine; decide, fun l hl => q l _ _ (fresh_back e2 hl) (e2.trans (Ex.new hl)) upd_same (.cons (Ex.new hl _ _ h2) .nil)⟩
theorem eb_N {tr : TA} {P : List V → Hp → Prop} {os : List (List Int)} (h : EvN te σ H os) (hr : EvB tr σ H P) : EvB (tCons te tr) σ H (fun vs H' => ∃ p us r, vs = .ref p :: r ∧ H p = none ∧ H' p = some (.lst us) ∧ Ls H' us os ∧ P r H') := fun H1 e Q q =>
  h H1 e _ fun p us H2 hn e2 hp hu => hr H2 (e.trans e2) _ fun vs H3 e3 hP => q _ H3 (e2.trans e3) ⟨p, us, vs, rfl, fresh_back e hn, e3 p _ hp, hu.mono e3, hP⟩
theorem en_cat {l : Addr} {vs : List V} {os ps : List (List Int)} (ha : Ev ta σ H (.ref l)) (hl : H l = some (.lst vs)) (ho : Ls H vs os) (hb : EvN tb σ H ps) (hz : os.length + ps.length ≤ 100000) : EvN (tOp rCat ta tb) σ H (os ++ ps) := fun H1 e Q q =>
  ha H1 e _ fun H2 e2 => hb H2 (e.trans e2) _ fun p us H3 hp e3 h3 hu => ⟨l, p, vs, us, rfl, rfl, e3 _ _ (e2 _ _ (e _ _ hl)), h3, sz_of (by rw [ho.len, hu.len]; exact hz), fun n hn =>
    q n _ _ (fresh_back (e2.trans e3) hn) ((e2.trans e3).trans (Ex.new hn)) upd_same (((ho.mono ((e.trans e2).trans e3)).app hu).mono (Ex.new hn))⟩
theorem s_asgN {i : Nat} {os : List (List Int)} (h : EvN te σ H os) (k : ∀ p vs H1, H p = none → Ex H H1 → H1 p = some (.lst vs) → Ls H1 vs os → D.nx (σ.set i (some (.ref p))) H1) : tAsg te (gName i) D σ H := h H (Ex.refl H) _ fun p vs H1 hp e h1 hu => k p vs H1 hp e h1 hu
/-- the heap without a place -/
def hid (d : Addr) (H : Hp) : Hp := fun b => if b = d then none else H b
theorem hid_ex {d : Addr} {H H' : Hp} (e : Ex H H') : Ex (hid d H) (hid d H') := fun a o h => by
  unfold hid at h ⊢
  by_cases c : a = d
  · rw [if_pos c] at h; cases h
  · rw [if_neg c] at h ⊢; exact e a o h
theorem hid_upd {d : Addr} {H : Hp} {o : HO} : hid d (upd H d o) = hid d H := by
  funext a
  unfold hid
  by_cases c : a = d
  · rw [if_pos c, if_pos c]
  · rw [if_neg c, if_neg c, upd_ne c]
theorem hid_sub {d : Addr} {H : Hp} : Ex (hid d H) H := fun a o h => by
  unfold hid at h
  by_cases c : a = d
  · rw [if_pos c] at h; cases h
  · rw [if_neg c] at h; exact h
theorem hid_at {d p : Addr} {H : Hp} (h : p ≠ d) : hid d H p = H p := by
  unfold hid
  rw [if_neg h]
/-- new lists, over a range -/
theorem q_asgN {i : Nat} {os : List (List Int)} (h : EvN te σ H os) (k : ∀ p vs H1, H p = none → Ex H H1 → H1 p = some (.lst vs) → Ls H1 vs os → tz D (σ.set i (some (.ref p))) H1) : tSeq (tAsg te (gName i)) tz D σ H := s_asgN (D := { D with nx := tz D }) h k
theorem en_lcRg {n : Int} {ta : TA} {j : Nat} {vs : List Nat} (g : Nat → List Int) (h : EvA ta σ H [.int n]) (h0 : 0 ≤ n) (hn : n ≤ 40000) (hw : ∀ x, wipe ((wipe σ vs).set j (some x)) vs = wipe σ vs)
    (he : ∀ (i : Nat) H1, (i : Int) < n → Ex H H1 → EvL te ((wipe σ vs).set j (some (.int (i : Int)))) H1 ((g i).map V.int)) : EvN (tLc (iRng1 ta) (gName j) tYes te vs) σ H ((List.range n.toNat).map g) := fun H0 e Q q => h H0 e _ fun H1 e1 => ⟨n, rfl, by omega, by omega, fun Dl hD =>
  lc_range (lo := 0) (n := n.toNat) (fun i H' => H1 Dl = none ∧ Ex H1 H' ∧ ∃ us, H' Dl = some (.lst us) ∧ Ls (hid Dl H') us ((List.range i).map g)) ⟨hD, Ex.new hD, [], upd_same, .nil⟩ (fun i H' hi ⟨p1, p2, us, p3, p4⟩ => by
    have e0 : (0 : Int) + (i : Int) = (i : Int) := Int.zero_add _
    rw [e0]
    refine ⟨hw _, ?_⟩
    show te ((wipe σ vs).set j (some (.int (i : Int)))) H' fun y H4 => ∃ acc, H4 Dl = some (.lst acc) ∧ acc.length < sizeLine ∧ (H1 Dl = none ∧ Ex H1 (upd H4 Dl (.lst (acc ++ [y]))) ∧ ∃ us, (upd H4 Dl (.lst (acc ++ [y]))) Dl = some (.lst us) ∧ Ls (hid Dl (upd H4 Dl (.lst (acc ++ [y])))) us ((List.range (i + 1)).map g))
    refine he i H' (by omega) ((e.trans e1).trans p2) H' (Ex.refl _) _ fun p H4 hp e4 h4 => ?_
    have ne : p ≠ Dl := (ne_of_none p3 hp).symm
    have hlen := p4.len
    rw [List.length_map, List.length_range] at hlen
    refine ⟨us, e4 _ _ p3, sz_lt (by omega), p1, Ex.mut (p2.trans e4) p1, us ++ [.ref p], upd_same, ?_⟩
    rw [hid_upd, List.range_succ, List.map_append]
    exact (p4.mono (hid_ex e4)).app (.cons (by rw [hid_at ne]; exact h4) .nil)) (fun H' ⟨p1, p2, us, p3, p4⟩ => q Dl us H' (fresh_back e1 p1) (e1.trans p2) p3 (p4.mono hid_sub))⟩
end
theorem cut_take (o : List Int) (k : Nat) : cutV (o.map V.int) none (some (k : Int)) = (o.take k).map V.int := by
  unfold cutV
  rw [HT.sIx_none, HT.sIx_nat, ints_len, List.drop_zero, Nat.sub_zero, ← List.map_take]
  congr 1
  by_cases h : k ≤ o.length
  · rw [Nat.min_eq_left h]
  · rw [Nat.min_eq_right (by omega), List.take_of_length_le (by omega), List.take_of_length_le (by omega)]
theorem cut_drop (o : List Int) (k : Nat) : cutV (o.map V.int) (some (k : Int)) none = (o.drop k).map V.int := by
  unfold cutV
  rw [HT.sIx_none, HT.sIx_nat, ints_len, ← List.map_drop, ← List.map_take]
  congr 1
  by_cases h : k ≤ o.length
  · rw [Nat.min_eq_left h, List.take_of_length_le (by rw [List.length_drop]; omega)]
  · rw [Nat.min_eq_right (by omega), List.drop_of_length_le (by omega), List.drop_of_length_le (by omega)]
    exact List.take_nil
/-- a display of lists -/
def EvAN (ta : TA) (σ : L2.St) (H : Hp) (os : List (List Int)) : Prop := ∀ H1, Ex H H1 → ∀ Q : List V → Hp → Prop, (∀ vs H2, Ex H1 H2 → Ls H2 vs os → Q vs H2) → ta σ H1 Q
theorem ean_nil {σ : L2.St} {H : Hp} : EvAN tNil σ H [] := fun H1 _ Q q => q [] H1 (Ex.refl H1) .nil
theorem ean_s {σ : L2.St} {H : Hp} {te : TE} {tr : TA} {o : List Int} {os : List (List Int)} (h : EvS te σ H (o.map V.int)) (hr : EvAN tr σ H os) : EvAN (tCons te tr) σ H (o :: os) := fun H1 e Q q =>
  h H1 e _ fun p H2 e2 hp => hr H2 (e.trans e2) _ fun vs H3 e3 hv => q _ H3 (e2.trans e3) (.cons (e3 _ _ hp) hv)
theorem en_lst {σ : L2.St} {H : Hp} {ta : TA} {os : List (List Int)} (h : EvAN ta σ H os) (hl : os.length ≤ 1000) : EvN (tLst ta) σ H os := fun H1 e Q q =>
  h H1 e _ fun vs H2 e2 hv => ⟨sz_of (by rw [hv.len]; omega), fun l hn => q l vs _ (fresh_back e2 hn) (e2.trans (Ex.new hn)) upd_same (hv.mono (Ex.new hn))⟩
theorem rep_all (g : List Int) (t : Int) : decide (g = List.replicate g.length t) = g.all fun x => decide (x = t) := by
  rw [Bool.eq_iff_iff, decide_eq_true_eq, List.all_eq_true]
  constructor
  · intro h x hx
    rw [h] at hx
    exact decide_eq_true (List.eq_of_mem_replicate hx)
  · intro h
    exact List.eq_replicate_iff.mpr ⟨rfl, fun x hx => of_decide_eq_true (h x hx)⟩
/-- over a new tuple of lists -/
theorem s_forTN {K : PySem.W.Frag} {σ : L2.St} {H : Hp} {ta : TA} {D : Ends} {tu : TS} {j : Nat} {os : List (List Int)} (h : EvAN ta σ H os) (hl : os.length ≤ 1000) (Pv : Hp → Nat → L2.St → Hp → Prop) (h0 : ∀ H1, Ex H H1 → Pv H1 0 σ H1) (hx : ∀ H1 i σ' H', Pv H1 i σ' H' → Ex H1 H')
    (hs : ∀ H1 i p o σ' H', Ex H H1 → os[i]? = some o → H1 p = some (.lst (o.map V.int)) → Pv H1 i σ' H' → tu { D with nx := Pv H1 (i + 1), ct := Pv H1 (i + 1), bk := D.nx } (σ'.set j (some (.ref p))) H') (hd : ∀ H1 σ' H', Ex H H1 → Pv H1 os.length σ' H' → D.nx σ' H') : tFor (iTup K (tTup ta)) (gName j) tu D σ H :=
  h H (Ex.refl H) _ fun vs H1 e1 hv => ⟨sz_of (by rw [hv.len]; omega), fun T hT => ⟨T, rfl, ⟨vs, st_of upd_same⟩, for_tup (Pv (upd H1 T (.tup vs))) (h0 _ (e1.trans (Ex.new hT))) (fun i σ' H' _ p => st_of (hx _ i σ' H' p T _ upd_same))
    (fun i x σ' H' hi p => by
      obtain ⟨q, o, rfl, ho, hq⟩ := hv.get hi
      exact hs _ i q o σ' H' (e1.trans (Ex.new hT)) ho (Ex.new hT _ _ hq) p) fun σ' H' p => hd _ σ' H' (e1.trans (Ex.new hT)) (by rw [← hv.len]; exact p)⟩⟩
theorem q_forTN {K : PySem.W.Frag} {σ : L2.St} {H : Hp} {ta : TA} {D : Ends} {tu tz : TS} {j : Nat} {os : List (List Int)} (h : EvAN ta σ H os) (hl : os.length ≤ 1000) (Pv : Hp → Nat → L2.St → Hp → Prop) (h0 : ∀ H1, Ex H H1 → Pv H1 0 σ H1) (hx : ∀ H1 i σ' H', Pv H1 i σ' H' → Ex H1 H')
    (hs : ∀ H1 i p o σ' H', Ex H H1 → os[i]? = some o → H1 p = some (.lst (o.map V.int)) → Pv H1 i σ' H' → tu { D with nx := Pv H1 (i + 1), ct := Pv H1 (i + 1), bk := tz D } (σ'.set j (some (.ref p))) H') (hd : ∀ H1 σ' H', Ex H H1 → Pv H1 os.length σ' H' → tz D σ' H') : tSeq (tFor (iTup K (tTup ta)) (gName j) tu) tz D σ H :=
  s_forTN (D := { D with nx := tz D }) h hl Pv h0 hx hs hd
end


section
variable {P : Program} {w : World} {K : PySem.W.Frag} {mg : Str → Option Value} {base : Heap}
/-! ### what the items of a list are -/
def intsOf : List V → Option (List Int)
  | [] => some []
  | .int n :: l => (intsOf l).map (n :: ·)
  | _ :: _ => none
theorem intsOf_ints : ∀ l : List Int, intsOf (l.map V.int) = some l
  | [] => rfl
  | n :: l => by
    show (intsOf (l.map V.int)).map (n :: ·) = _
    rw [intsOf_ints l]
    rfl
theorem intsOf_some : ∀ {xs : List V} {l : List Int}, intsOf xs = some l → xs = l.map V.int
  | [], l, h => by
    cases h
    rfl
  | .int n :: xs, l, h => by
    have h : (intsOf xs).map (n :: ·) = some l := h
    cases e : intsOf xs with
    | none => rw [e] at h; cases h
    | some m =>
      rw [e] at h
      cases h
      rw [intsOf_some e]
      rfl
  | .non :: _, _, h => nomatch h
  | .bl _ :: _, _, h => nomatch h
  | .str _ :: _, _, h => nomatch h
  | .ref _ :: _, _, h => nomatch h
  | .byt _ :: _, _, h => nomatch h
  | .flt _ :: _, _, h => nomatch h
  | .ty _ :: _, _, h => nomatch h
theorem intsOf_all : ∀ xs : List V, xs.all wholeV = (intsOf xs).isSome
  | [] => rfl
  | .int n :: xs => by
    have ih := intsOf_all xs
    show (true && xs.all wholeV) = ((intsOf xs).map (n :: ·)).isSome
    rw [ih, Bool.true_and]
    cases intsOf xs <;> rfl
  | .non :: _ => rfl
  | .bl _ :: _ => rfl
  | .str _ :: _ => rfl
  | .ref _ :: _ => rfl
  | .byt _ :: _ => rfl
  | .flt _ :: _ => rfl
  | .ty _ :: _ => rfl
theorem bad_no {o : Option (List V)} (h : badT o = false) : ∃ xs, o = some xs ∧ xs.all (okV xs.length) = true := by
  cases o with
  | none => exact nomatch h
  | some xs =>
    have h : (!(xs.all (okV xs.length))) = false := h
    exact ⟨xs, rfl, by simpa using h⟩
theorem okV_whole {n : Nat} : ∀ x : V, okV n x = true → wholeV x = true
  | .int _, _ => rfl
  | .non, h => nomatch h
  | .bl _, h => nomatch h
  | .str _, h => nomatch h
  | .ref _, h => nomatch h
  | .byt _, h => nomatch h
  | .flt _, h => nomatch h
  | .ty _, h => nomatch h
theorem bad_ints {o : Option (List V)} (h : badT o = false) : ∃ g : List Int, o = some (g.map V.int) ∧ ∀ n ∈ g, -1 ≤ n ∧ n < (g.length : Int) := by
  obtain ⟨xs, rfl, hx⟩ := bad_no h
  rw [List.all_eq_true] at hx
  have hw : xs.all wholeV = true := List.all_eq_true.mpr fun x m => okV_whole x (hx x m)
  rw [intsOf_all] at hw
  cases e : intsOf xs with
  | none => rw [e] at hw; exact nomatch hw
  | some g =>
    have ex := intsOf_some e
    subst ex
    refine ⟨g, rfl, fun n hn => ?_⟩
    have q := hx (.int n) (List.mem_map_of_mem hn)
    rw [ints_len] at q
    have q : (decide (-1 ≤ n) && decide (n < (g.length : Int))) = true := q
    rw [Bool.and_eq_true] at q
    exact ⟨of_decide_eq_true q.1, of_decide_eq_true q.2⟩
def offL (g : List Int) : Option (List Int) → Bool
  | none => false
  | some l => offB g l
def offO (g : List Int) : Option (List V) → Bool
  | none => false
  | some xs => offL g (intsOf xs)
theorem et_wholeX {σ : L2.St} {H : Hp} {tl te : TE} {E : XK} {xs : List V} {j : Nat} {vs : List Nat} (h : EvR K tl σ H xs) (hi : ∀ x ∈ xs, Itm K H x) (hz : xs.length ≤ 1000) (hw : ∀ x, wipe ((wipe σ vs).set j (some x)) vs = wipe σ vs)
    (he : ∀ x H1, Ex H H1 → Ev te ((wipe σ vs).set j (some x)) H1 x) : EvT (tNot (tB (tCB (rAll K) (tCons (tLc (iList K tl) (gName j) tYes (tCall (spWhole K) [] E (tCons te tNil)) vs) tNil)))) σ H (!(xs.all wholeV)) := by
  refine et_not (et_B (ev_is (ev_allR (bs := xs.map wholeV) ?_) ?_))
  · refine er_of (es_new (el_is (el_lcV (fun _ => true) (fun x => V.bl (wholeV x)) h (by omega) hw (fun _ _ _ _ => et_yes) fun x H1 hx _ e => ev_wholeI (he x H1 e) ((hi x hx).ex e)) ?_))
    rw [filter_yes, List.map_map]
    rfl
  · rw [List.all_map]
    rfl
/-! ### counts, seated -/
theorem sc_counts : FnScope ["shuns", "size", "orders", "sums", "last", "picked", "many", "low", "k"] ["shuns"] (defScope (topS 14)) :=
  ⟨rfl, rfl, rfl, by decide +kernel, rfl, by decide +kernel, by decide +kernel⟩

def spCountsX (K : PySem.W.Frag) (C : Addr) : Sp := fun vs H Q E => ∃ (x : V) (o : Option (List V)), vs = [x] ∧ Th K H x o ∧ (badT o = true → RetX C H E) ∧ (badT o = false → ∃ g, Ok g ∧ o = some (g.map V.int) ∧ RetL ((cts g).map V.int) H Q)
theorem th_at {H : Hp} {x : V} {xs : List V} (h : Th K H x (some xs)) : ∃ p, x = .ref p ∧ H p = some (.lst xs) := by
  cases h with
  | lst h1 _ _ => exact ⟨_, rfl, h1⟩
theorem ok_countsX {f f1 f2 f3 f4 C : Addr} {fd fd1 fd2 fd3 fd4 : FuncData} (F : Fun K "counts" "counts" (topS 14) f fd) (B : Bi mg) (D_check_shuns : Df P w K mg base (L2.CX P w) 2 "check_shuns" f1 fd1 ["shuns"] (spCheckX K C))
    (D_orders_to : Df P w K mg base CX0 1 "orders_to" f2 fd2 ["many"] spOrders) (D_shunners : Df P w K mg base CX0 1 "shunners" f3 fd3 ["shuns"] spShunners) (D_sums_of : Df P w K mg base CX0 2 "sums_of" f4 fd4 ["marks"] spSums) :
    FnOk P w K mg base (L2.CX P w) 3 f fd ["shuns"] (spCountsX K C) := by
  refine F.okX sc_counts (fun vs H Q E h => ?_) (fun cdv A outer s H vs Q E hr h => ?_)
  · obtain ⟨x, o, rfl, _⟩ := h
    rfl
  · obtain ⟨x, o, rfl, th, kb, kg⟩ := h
    refine ⟨_, (pss_cons (ps_expr (pe_call D_check_shuns.ok (hr.mono (by decide)) (by rfl) D_check_shuns.g D_check_shuns.kp D_check_shuns.b .nil (passes_call (takes_of rfl rfl rfl rfl) (fun _ _ _ _ h => h)) (pa_cons (pv 0) pa_nil)))
 (pss_cons (ps_set (i := 1) sc_counts.nd rfl (Or.inl rfl) (pe_callB (kLen K) (by rfl) B.len PySem.boot_len (pa_cons (pv 0) pa_nil)))
 (pss_cons (ps_set (i := 2) sc_counts.nd rfl (Or.inl rfl) (pe_call D_orders_to.ok (hr.mono (by decide)) (by rfl) D_orders_to.g D_orders_to.kp D_orders_to.b .nil pass0 (pa_cons (pv 1) pa_nil)))
 (pss_cons (ps_set (i := 3) sc_counts.nd rfl (Or.inl rfl) (pe_call D_sums_of.ok (hr.mono (by decide)) (by rfl) D_sums_of.g D_sums_of.kp D_sums_of.b .nil pass0 (pa_cons (pe_call D_shunners.ok (hr.mono (by decide)) (by rfl) D_shunners.g D_shunners.kp D_shunners.b .nil pass0 (pa_cons (pv 0) pa_nil)) pa_nil)))
 (pss_cons (ps_set (i := 4) sc_counts.nd rfl (Or.inl rfl) (pe_op op_rep (pe_lst (pa_cons pe_int pa_nil)) (pe_op op_add (pv 1) pe_int)))
 (pss_cons (ps_for (passes_of rfl) rfl (kpEnum K (by rfl) B.enumerate (pa_cons (pv 3) pa_nil)) (kgTup (n := 2) K (pgs_cons (pg_name (i := 5) sc_counts.nd rfl (Or.inl rfl)) (pgs_cons (pg_name (i := 6) sc_counts.nd rfl (Or.inl rfl)) pgs_nil)))
 (pss_one (ps_asg (pe_op op_mulW (pv 6) (pe_ix (kIx K) (pv 2) (pe_op op_sub (pv 1) (pv 5)) (fun _ _ => rfl))) (pg_sub (pv 4) (pv 5) set_list))))
 (pss_cons (ps_for (passes_of rfl) rfl (pi_range1 (by rfl) B.range (pa_cons (pv 1) pa_nil)) (pg_name (i := 7) sc_counts.nd rfl (Or.inl rfl))
 (pss_one (ps_for (passes_of rfl) rfl (pi_revR (by rfl) B.reversed (prg_2 (by rfl) B.range (pv 7) (pv 1))) (pg_name (i := 8) sc_counts.nd rfl (Or.inl rfl))
 (pss_one (ps_augS (pv 4) (pv 8) (kGet K) (pe_ix (kIx K) (pv 4) (pe_op op_add (pv 8) pe_int) (fun _ _ => rfl)) ip_sub set_list)))))
 (pss_one (ps_ret (pv 4)))))))))), ?_⟩
    refine call_checkX (ev_var rfl) th kb fun hb H1 e1 => ?_
    obtain ⟨g, ok, rfl, k⟩ := kg hb
    obtain ⟨hg, hz⟩ := id ok
    obtain ⟨a, rfl, ha⟩ := th_at th
    refine q_asg (v := .int (g.length : Int)) (ev_is (ev_lenR (er_var rfl (sq_of (e1 _ _ ha)))) (by rw [ints_len])) fun H2 e2 => ?_
    have ha2 := e2 _ _ (e1 _ _ ha)
    refine q_asgL (call_orders (ev_var rfl) (by omega)) fun p1 H3 hp1 e3 h3 => ?_
    refine q_asgL (call_sums (es_new (call_shunners (es_var rfl (e3 _ _ ha2)) ok)) (marks_ok hz) (by rw [marks_len]; omega)) fun p2 H4 hp2 e4 h4 => ?_
    refine q_asgL (xs := (lst (fun _ => 0) 0 (g.length + 1)).map V.int) (el_is (el_rep (x := V.int 0) (k := (g.length : Int) + 1) (by walk_at "ev"; decide) (by walk_at "ev") (by omega) (by omega)) ?_) fun p3 H5 hp3 e5 h5 => ?_
    · have e : ((g.length : Int) + 1).toNat = g.length + 1 := by omega
      rw [lst_zero, List.map_replicate, e]
    have e04 : Ex H H4 := ((e1.trans e2).trans e3).trans e4
    have h34 := e4 _ _ h3
    have sl := sm_len (marks g.length g)
    rw [marks_len] at sl
    refine q_forEn (ns := sm (marks g.length g)) (ev_var rfl) (sq_of (e5 _ _ h4)) (fun i σ' H' => (∃ v1 v2, σ' = [some (.ref a), some (.int (g.length : Int)), some (.ref p1), some (.ref p2), some (.ref p3), v1, v2, none, none]) ∧ Ex H4 H' ∧
        H' p3 = some (.lst ((lst (fun k => if k < i then cf (sm (marks g.length g)) k * fac (g.length - k) else 0) 0 (g.length + 1)).map V.int)))
      (fun H6 e6 => ⟨⟨_, _, rfl⟩, e5.trans e6, ?_⟩) (fun i σ' H' q => sq_of (q.2.1 _ _ h4)) ?_ ?_
    · rw [e6 _ _ h5]
      rfl
    · rintro i m σ' H' H6 hm ⟨⟨v1, v2, rfl⟩, eH, hl⟩ e6
      have hi := (List.getElem?_eq_some_iff.mp hm).1
      have hfo : (lst fac 0 (g.length + 1))[g.length - i]? = some (fac (g.length - i)) := lst_at (by omega)
      have hmc : cf (sm (marks g.length g)) i = m := cf_of hm
      have big : m.natAbs < 2 ^ 400 := by
        rw [← hmc, sm_rk]
        exact rk_big hz (by omega) i
      refine s_setO (j := i) hp3 (eH.trans e6) (e6 _ _ hl) (v := .int (m * fac (g.length - i))) ?_ (ev_var rfl) (ev_var rfl) (by rw [ints_len, lst_len]; omega) fun H7 e7 h7 _ => ⟨⟨_, _, rfl⟩, e7, ?_⟩
      · refine ev_I (ev_var rfl) (ev_ixR (er_var rfl (sq_of (e6 _ _ (eH _ _ h34)))) (ev_I0 (ev_var rfl) (ev_var rfl)) (at_int (by omega) hfo)) (wide_mul big (fac_big (by omega)) (by decide) (by decide) (by decide))
      · rw [h7, ints_set, lst_set]
        congr 3
        refine lst_congr fun k _ hk => ?_
        by_cases e : k = i
        · subst e
          rw [if_pos rfl, if_pos (by omega), hmc]
        · rw [if_neg e]
          by_cases c : k < i
          · rw [if_pos c, if_pos (by omega)]
          · rw [if_neg c, if_neg (by omega)]
    · rintro σ' H' ⟨⟨v1, v2, rfl⟩, eH, hl⟩
      have hL : H' p3 = some (.lst ((lay (seats g.length) g).map V.int)) := by
        rw [hl]
        congr 3
        unfold lay
        refine lst_congr fun k _ hk => ?_
        rw [← sm_rk]
        by_cases c : k < (sm (marks g.length g)).length
        · rw [if_pos c]
        · rw [if_neg c, cf_end (by omega), Int.zero_mul]
      have lL : (lay (seats g.length) g).length = g.length + 1 := by unfold lay; rw [lst_len]
      refine q_forR1 (n := (g.length : Int)) (by walk_at "ev") ⟨by omega, by omega⟩ (fun i σ' H' => (∃ v1 v2 v3 v4, σ' = [some (.ref a), some (.int (g.length : Int)), some (.ref p1), some (.ref p2), some (.ref p3), v1, v2, v3, v4]) ∧ Ex H4 H' ∧
          H' p3 = some (.lst (((trS i (lay (seats g.length) g)).1 ++ (trS i (lay (seats g.length) g)).2).map V.int))) (fun H6 e6 => ⟨⟨_, _, _, _, rfl⟩, eH.trans e6, e6 _ _ hL⟩) ?_ ?_
      · rintro low σ' H' hlow ⟨⟨v1, v2, v3, v4, rfl⟩, eH, hl⟩
        obtain ⟨t1, t2⟩ := trS_len (i := low) (l := lay (seats g.length) g) (by omega)
        generalize hA : (trS low (lay (seats g.length) g)).1 = A1 at hl t1
        generalize hR : (trS low (lay (seats g.length) g)).2 = R1 at hl t2
        rw [lL] at t2
        refine s_forRv (lo := (low : Int)) (hi := (g.length : Int)) (ev_var rfl) (ev_var rfl) ⟨by omega, by omega, by omega⟩ (fun j σ' H' => (∃ v4, σ' = [some (.ref a), some (.int (g.length : Int)), some (.ref p1), some (.ref p2), some (.ref p3), v1, v2, some (.int (low : Int)), v4]) ∧ Ex H4 H' ∧
            H' p3 = some (.lst ((A1 ++ part R1 j).map V.int))) (fun H6 e6 => ⟨⟨_, rfl⟩, eH.trans e6, ?_⟩) ?_ ?_
        · rw [part_0 (by omega)]
          exact e6 _ _ hl
        · rintro j σ' H' hj ⟨⟨v4, rfl⟩, eH, hl⟩
          obtain ⟨q, hq⟩ : ∃ q : Nat, q + j + 2 = R1.length := ⟨R1.length - 2 - j, by omega⟩
          obtain ⟨c1, c2, c3⟩ := part_step hq
          have ek : (g.length : Int) - 1 - (j : Int) = ((low + q : Nat) : Int) := by omega
          have g1 : (A1 ++ part R1 j)[low + q]? = some (cf (part R1 j) q) := by
            rw [List.getElem?_append_right (by omega), t1]
            have : low + q - low = q := by omega
            rw [this]
            exact c1
          have g2 : (A1 ++ part R1 j)[low + q + 1]? = some (cf (part R1 j) (q + 1)) := by
            rw [List.getElem?_append_right (by omega), t1]
            have : low + q + 1 - low = q + 1 := by omega
            rw [this]
            exact c2
          refine s_augO (j := low + q) (a := cf (part R1 j) q) (b := cf (part R1 j) (q + 1)) hp3 eH hl (ev_var rfl) (ev_is (ev_var rfl) (congrArg V.int ek)) (ints_at g1) ?_ fun H7 e7 h7 _ => ⟨⟨_, rfl⟩, e7, ?_⟩
          · exact ev_ixR (er_var rfl (sq_of hl)) (ev_I0 (ev_var rfl) ev_c) (at_int (j := low + q + 1) (by omega) g2)
          · rw [h7, ints_set, c3, List.set_append_right _ _ (by omega), t1]
            have : low + q - low = q := by omega
            rw [this]
        · rintro σ' H' ⟨⟨v4, rfl⟩, eH, hl⟩
          refine ⟨⟨_, _, _, _, rfl⟩, eH, ?_⟩
          have e : ((g.length : Int) - (low : Int)).toNat = R1.length - 1 := by omega
          rw [e, part_all] at hl
          have hal := alt_len R1
          cases ea : alt R1 with
          | nil =>
            rw [ea] at hal
            simp at hal
            omega
          | cons x t =>
            rw [← hR] at ea
            rw [trS_step ea, hA, hl, ← hR, ea]
            show _ = some (HO.lst (((A1 ++ [x]) ++ t).map V.int))
            rw [List.append_assoc]
            rfl
      · rintro σ' H' ⟨⟨v1, v2, v3, v4, rfl⟩, eH, hl⟩
        refine s_ret (ev_var rfl) fun H6 e6 => k p3 H6 (fresh_back e04 hp3) ((e04.trans eH).trans e6) ?_
        have e : ((g.length : Int)).toNat = g.length := by omega
        rw [e, trS_all lL, tr_lay (seats_nodup _) (seats_len _)] at hl
        exact e6 _ _ hl

theorem sc_seated : FnScope ["shuns", "size", "seating", "guest", "other"] ["shuns"] (defScope (topS 25)) :=
  ⟨rfl, rfl, rfl, by decide +kernel, rfl, by decide +kernel, by decide +kernel⟩

def spRef (K : PySem.W.Frag) (C : Addr) : Sp := fun vs H _ E => ∃ (x : V) (o : Option (List V)), vs = [x] ∧ Th K H x o ∧ badT o = true ∧ RetX C H E
theorem ok_seatedX {f f1 C : Addr} {fd fd1 : FuncData} (F : Fun K "seated" "seated" (topS 25) f fd) (B : Bi mg) (D_check_shuns : Df P w K mg base (L2.CX P w) 2 "check_shuns" f1 fd1 ["shuns"] (spCheckX K C)) : FnOk P w K mg base (L2.CX P w) 3 f fd ["shuns"] (spRef K C) := by
  refine F.okX sc_seated (fun vs H Q E h => ?_) (fun cdv A outer s H vs Q E hr h => ?_)
  · obtain ⟨x, o, rfl, _⟩ := h
    rfl
  · obtain ⟨x, o, rfl, th, hb, k⟩ := h
    refine ⟨_, (pss_cons (ps_expr (pe_call D_check_shuns.ok (hr.mono (by decide)) (by rfl) D_check_shuns.g D_check_shuns.kp D_check_shuns.b .nil (passes_call (takes_of rfl rfl rfl rfl) (fun _ _ _ _ h => h)) (pa_cons (pv 0) pa_nil)))
 (pss_cons ps_never
 (pss_cons ps_never
 (pss_cons ps_never
 (pss_cons ps_never
 (pss_one ps_never)))))), ?_⟩
    refine call_checkX (ev_var rfl) th (fun _ => k) fun hg => ?_
    rw [hb] at hg
    exact nomatch hg
end


section
variable {P : Program} {w : World} {K : PySem.W.Frag} {mg : Str → Option Value} {base : Heap}
/-! ### without_part -/
theorem cut_init (s : List Int) : cutV (s.map V.int) none (some (-1)) = s.dropLast.map V.int := by
  unfold cutV
  rw [HT.sIx_none]
  have e : HT.sIx (s.map V.int).length (s.map V.int).length (some (-1)) = s.length - 1 := by
    rw [ints_len]
    show (if (-1 : Int) < 0 then ((-1 : Int) + (s.length : Int)).toNat else min (-1 : Int).toNat s.length) = s.length - 1
    rw [if_pos (by decide)]
    omega
  rw [e, List.drop_zero, Nat.sub_zero, ← List.map_take, List.dropLast_eq_take]
def lastOf (m : Int) (l : List Int) : Int := (0 :: wl m 0 l).getLastD 0
theorem lastOf_snoc (m : Int) (l : List Int) (x : Int) : lastOf m (l ++ [x]) = x - m * lastOf m l := by
  unfold lastOf
  rw [wl_snoc, ← List.cons_append, List.getLastD_concat]
theorem sc_without_part : FnScope ["sums", "many", "found", "last", "number"] ["sums", "many"] (defScope (topS 11)) :=
  ⟨rfl, rfl, rfl, by decide +kernel, rfl, by decide +kernel, by decide +kernel⟩

def spWithout : Sp := fun vs H Q _ => ∃ (a : Addr) (s : List Int) (m : Int), vs = [.ref a, .int m] ∧ H a = some (.lst (s.map V.int)) ∧ s.length ≤ 100 ∧ (0 ≤ m ∧ m ≤ 100) ∧ RetL ((wo s m).map V.int) H Q
theorem ok_without_part {f : Addr} {fd : FuncData} (F : Fun K "without_part" "without_part" (topS 11) f fd) (B : Bi mg) : FnOk P w K mg base CX0 1 f fd ["sums", "many"] spWithout := by
  refine F.ok sc_without_part (fun vs H Q E h => ?_) (fun cdv A outer s H vs Q E hr h => ?_)
  · obtain ⟨a, g, m, rfl, _⟩ := h
    rfl
  · obtain ⟨a, g, m, rfl, ha, hz, ⟨m0, m1⟩, k⟩ := h
    refine ⟨_, (pss_cons (ps_if (pt_cmpR op_eq (pv 1) pe_int (nomark _))
 (pss_one (ps_ret (pe_callTy (kList K) (by rfl) B.list (by decide +kernel) (pa_cons (pv 0) pa_nil))))
 pss_nil)
 (pss_cons (ps_set (i := 2) sc_without_part.nd rfl (Or.inl rfl) (pe_lst pa_nil))
 (pss_cons (ps_set (i := 3) sc_without_part.nd rfl (Or.inl rfl) pe_int)
 (pss_cons (ps_for PassesOwn.never rfl (kpList K (pe_slice (kSl K) (pv 0) po_none (po_some (pe_un un_neg pe_int)))) (pg_name (i := 4) sc_without_part.nd rfl (Or.inl rfl))
 (pss_cons (ps_set (i := 3) sc_without_part.nd rfl (Or.inl rfl) (pe_op op_sub (pv 4) (pe_op op_mul (pv 1) (pv 3))))
 (pss_one (ps_expr (kBm K PySem.F.plainAttrs_list PySem.F.slot_list_append PySem.F.type_list_append mt_append (pv 2) (pa_cons (pv 3) pa_nil))))))
 (pss_one (ps_ret (pv 2))))))), ?_⟩
    refine q_when (b := decide (m = 0)) (by walk_at "ev") (fun hb H1 e1 => ?_) fun hb H1 e1 => ?_
    · have hm : m = 0 := of_decide_eq_true hb
      refine s_retL (xs := g.map V.int) (by walk_at "ev") fun p H2 hp e2 h2 => k p H2 (fresh_back e1 hp) (e1.trans e2) ?_
      rw [h2]
      unfold wo
      rw [if_pos hm]
    · have hm : ¬ m = 0 := of_decide_eq_false hb
      refine q_asgL (xs := []) (el_lst ea_nil (by decide)) fun pf H2 hpf e2 h2 => ?_
      refine q_asg (v := .int 0) ev_c fun H3 e3 => ?_
      have e03 := (e1.trans e2).trans e3
      have ha3 := e03 _ _ ha
      have hpf' : H pf = none := fresh_back e1 hpf
      have dl : g.dropLast.length = g.length - 1 := List.length_dropLast
      refine q_forNLn (xs := g.dropLast.map V.int) (el_is (el_sli (er_var rfl (sq_of ha3)) eo_none (eo_some (ev_U_neg ev_c))) (cut_init g))
        (fun pv i σ' H' => (∃ v4, σ' = [some (.ref a), some (.int m), some (.ref pf), some (.int (lastOf m (g.dropLast.take i))), v4]) ∧ Ex H H' ∧ pv ≠ pf ∧ H' pv = some (.lst (g.dropLast.map V.int)) ∧ H' pf = some (.lst ((wl m 0 (g.dropLast.take i)).map V.int)))
        (fun pv H4 hpv e4 h4 => ⟨⟨_, rfl⟩, e03.trans e4, (ne_of_none (e3 _ _ h2) hpv).symm, h4, e4 _ _ (e3 _ _ h2)⟩) (fun _ _ _ _ _ q => sq_of q.2.2.2.1) ?_ ?_
      · rintro pv i x σ' H' hx ⟨⟨v4, rfl⟩, eH, nv, hv, hl⟩
        obtain ⟨z, hz', rfl⟩ := of_ints hx
        have tk : g.dropLast.take (i + 1) = g.dropLast.take i ++ [z] := by rw [List.take_add_one, hz']; rfl
        refine q_asg (v := .int (lastOf m (g.dropLast.take (i + 1)))) (ev_is (ev_I0 (ev_var rfl) (ev_I (ev_var rfl) (ev_var rfl) (Or.inl ⟨by omega, by omega⟩))) (by rw [tk, lastOf_snoc])) fun H5 e5 => ?_
        refine s_appO hpf' (eH.trans e5) (e5 _ _ hl) (ev_var rfl) (ev_var rfl) (by rw [ints_len, wl_len, List.length_take]; omega) fun H6 e6 h6 b6 => ⟨⟨_, rfl⟩, e6, nv, b6 _ _ nv (e5 _ _ hv), ?_⟩
        rw [h6, ints_snoc, tk, lastOf_snoc, wl_snoc]
        rfl
      · rintro pv σ' H' ⟨⟨v4, rfl⟩, eH, nv, hv, hl⟩
        rw [ints_len, List.take_length] at hl
        refine s_ret (ev_var rfl) fun H5 e5 => k pf H5 hpf' (eH.trans e5) ?_
        rw [e5 _ _ hl]
        unfold wo
        rw [if_neg hm]
theorem call_without {σ : L2.St} {H : Hp} {ta tb : TE} {s : List Int} {m : Int} {E : XK} (h : EvS ta σ H (s.map V.int)) (h2 : Ev tb σ H (.int m)) (hs : s.length ≤ 100) (hm : 0 ≤ m ∧ m ≤ 100) : EvL (tCall spWithout [] E (tCons ta (tCons tb tNil))) σ H ((wo s m).map V.int) :=
  el_callB (eb_s h (eb_v h2 eb_nil)) fun vs H1 e ⟨p, r, e1, hp, r', e2, e3⟩ Q k => by
    subst e3 e2
    exact ⟨p, s, m, e1, hp, hs, hm, k⟩
theorem call_with {σ : L2.St} {H : Hp} {ta tb : TE} {s : List Int} {m : Int} {E : XK} (h : EvS ta σ H (s.map V.int)) (h2 : Ev tb σ H (.int m)) (hs : s.length ≤ 100) (hm : 0 ≤ m ∧ m ≤ 100) : EvL (tCall spWith [] E (tCons ta (tCons tb tNil))) σ H ((wp s m).map V.int) :=
  el_callB (eb_s h (eb_v h2 eb_nil)) fun vs H1 e ⟨p, r, e1, hp, r', e2, e3⟩ Q k => by
    subst e3 e2
    exact ⟨p, s, m, e1, hp, hs, hm, k⟩
end


section
variable {P : Program} {w : World} {K : PySem.W.Frag} {mg : Str → Option Value} {base : Heap}
/-! ### Hall: an object of one's own whose fields change -/
def hfs (a o m u e : Addr) : List (Str × V) := [("shuns", .ref a), ("orders", .ref o), ("marks", .ref m), ("sums", .ref u), ("seats", .ref e)]
structure HK (K : PySem.W.Frag) (C : Addr) : Prop where
  io : Io K C
  n1 : NoAttr K C "shuns"
  n2 : NoAttr K C "orders"
  n3 : NoAttr K C "marks"
  n4 : NoAttr K C "sums"
  n5 : NoAttr K C "seats"
theorem l1 {a o m u e : Addr} : List.lookup ("shuns" : Str) (hfs a o m u e) = some (V.ref a) := by rfl
theorem l2 {a o m u e : Addr} : List.lookup ("orders" : Str) (hfs a o m u e) = some (V.ref o) := by rfl
theorem l3 {a o m u e : Addr} : List.lookup ("marks" : Str) (hfs a o m u e) = some (V.ref m) := by rfl
theorem l4 {a o m u e : Addr} : List.lookup ("sums" : Str) (hfs a o m u e) = some (V.ref u) := by rfl
theorem l5 {a o m u e : Addr} : List.lookup ("seats" : Str) (hfs a o m u e) = some (V.ref e) := by rfl
theorem l_ways {a o m u e : Addr} : List.lookup ("ways" : Str) (hfs a o m u e) = none := by rfl
theorem l_whole {a o m u e : Addr} : List.lookup ("whole" : Str) (hfs a o m u e) = none := by rfl
theorem l_turn {a o m u e : Addr} : List.lookup ("turn" : Str) (hfs a o m u e) = none := by rfl
theorem l_choices {a o m u e : Addr} : List.lookup ("choices" : Str) (hfs a o m u e) = none := by rfl
theorem l_take {a o m u e : Addr} : List.lookup ("take" : Str) (hfs a o m u e) = none := by rfl
theorem put_sums {a o m u e v : Addr} : putF "sums" (.ref v) (hfs a o m u e) = hfs a o m v e := by rfl
section
variable {σ : L2.St} {H H0 : Hp} {ta tb tv : TE} {D : Ends} {tz : TS} {C p dx : Addr} {f : Str} {fs : List (Str × V)} {v : V} {xs : List V}
theorem s_fldO (h0 : H0 p = none) (e0 : Ex H0 H) (hp : H p = some (.ins C dx fs)) (hv : Ev tv σ H v) (ho : Ev ta σ H (.ref p)) (hc : Cls K C) (hn : NoAttr K C f) (hl : fs.length < 1000)
    (k : ∀ H2, Ex H0 H2 → H2 p = some (.ins C dx (putF f v fs)) → Bt p H H2 → D.nx σ H2) : sFld K ta tv f D σ H := hv H (Ex.refl H) _ fun H1 e1 => ho H1 e1 _ fun H2 e2 =>
  ⟨p, C, dx, fs, rfl, (e1.trans e2) _ _ hp, hc, hn, hl, k _ (Ex.mut (e0.trans (e1.trans e2)) h0) upd_same (bt_ex (e1.trans e2))⟩
theorem s_fldL (h0 : H0 p = none) (e0 : Ex H0 H) (hp : H p = some (.ins C dx fs)) (hv : EvL tv σ H xs) (ho : Ev ta σ H (.ref p)) (hc : Cls K C) (hn : NoAttr K C f) (hl : fs.length < 1000)
    (k : ∀ q H2, H q = none → Ex H0 H2 → H2 p = some (.ins C dx (putF f (.ref q) fs)) → H2 q = some (.lst xs) → Bt p H H2 → D.nx σ H2) : sFld K ta tv f D σ H := hv H (Ex.refl H) _ fun q H1 hq e1 h1 => ho H1 e1 _ fun H2 e2 =>
  ⟨p, C, dx, fs, rfl, (e1.trans e2) _ _ hp, hc, hn, hl, k q _ hq (Ex.mut (e0.trans (e1.trans e2)) h0) upd_same (by rw [upd_ne (ne_of_none hp hq).symm]; exact e2 _ _ h1) (bt_ex (e1.trans e2))⟩
theorem q_fldO (h0 : H0 p = none) (e0 : Ex H0 H) (hp : H p = some (.ins C dx fs)) (hv : Ev tv σ H v) (ho : Ev ta σ H (.ref p)) (hc : Cls K C) (hn : NoAttr K C f) (hl : fs.length < 1000)
    (k : ∀ H2, Ex H0 H2 → H2 p = some (.ins C dx (putF f v fs)) → Bt p H H2 → tz D σ H2) : tSeq (sFld K ta tv f) tz D σ H := s_fldO (D := { D with nx := tz D }) h0 e0 hp hv ho hc hn hl k
theorem q_fldL (h0 : H0 p = none) (e0 : Ex H0 H) (hp : H p = some (.ins C dx fs)) (hv : EvL tv σ H xs) (ho : Ev ta σ H (.ref p)) (hc : Cls K C) (hn : NoAttr K C f) (hl : fs.length < 1000)
    (k : ∀ q H2, H q = none → Ex H0 H2 → H2 p = some (.ins C dx (putF f (.ref q) fs)) → H2 q = some (.lst xs) → Bt p H H2 → tz D σ H2) : tSeq (sFld K ta tv f) tz D σ H := s_fldL (D := { D with nx := tz D }) h0 e0 hp hv ho hc hn hl k
theorem ev_inL {n : Int} {ns : List Int} (ha : Ev ta σ H (.int n)) (hb : EvR K tb σ H (ns.map V.int)) : Ev (tOp (rIn K false) ta tb) σ H (.bl (decide (n ∈ ns))) := fun H1 e Q q =>
  ha H1 e _ fun H2 e2 => hb H2 (e.trans e2) _ fun p H3 e3 hp => ⟨p, _, rfl, .inl hp, rfl, all_flat ns, by
    show Q (.bl (inV (.int n) (ns.map V.int))) H3
    rw [in_ints]
    exact q H3 (e2.trans e3)⟩
theorem ev_ixTr {i : Int} {T : Addr} (h1 : Ev ta σ H (.ref T)) (hT : H T = some (.tup xs)) (hb : Ev tb σ H (.int i)) (h : atI xs i = some v) : Ev (tOp (rIxT K) ta tb) σ H v := fun H1 e Q q =>
  h1 H1 e _ fun H2 e2 => hb H2 (e.trans e2) _ fun H3 e3 => ⟨T, xs, i, v, rfl, rfl, st_of (e3 _ _ (e2 _ _ (e _ _ hT))), h, q H3 (e2.trans e3)⟩
theorem ev_dget {d : Addr} {i : Int} {kvs : List (Key × V)} (h1 : Ev ta σ H (.ref d)) (hb : Ev tb σ H (.int i)) (hd : H d = some (.dK kvs)) (h : valV kvs (.inl i) = some v) : Ev (tDGet ta tb) σ H v := fun H1 e Q q =>
  h1 H1 e _ fun H2 e2 => hb H2 (e.trans e2) _ fun H3 e3 => ⟨d, v, rfl, by rw [← h]; exact DGet.k (k := .inl i) (e3 _ _ (e2 _ _ (e _ _ hd))), q H3 (e2.trans e3)⟩
theorem ev_dni {d : Addr} {i : Int} {kvs : List (Key × V)} (hb : Ev tb σ H (.int i)) (h1 : Ev ta σ H (.ref d)) (hd : H d = some (.dK kvs)) : Ev (tDNotIn tb ta) σ H (.bl (!(valV kvs (.inl i)).isSome)) := fun H1 e Q q =>
  hb H1 e _ fun H2 e2 => h1 H2 (e.trans e2) _ fun H3 e3 => ⟨d, _, rfl, DGet.k (k := .inl i) (e3 _ _ (e2 _ _ (e _ _ hd))), q H3 (e2.trans e3)⟩
theorem s_dput {d : Addr} {i : Int} {kvs : List (Key × V)} (h0 : H0 d = none) (e0 : Ex H0 H) (hd : H d = some (.dK kvs)) (hv : Ev tv σ H v) (h1 : Ev ta σ H (.ref d)) (hb : Ev tb σ H (.int i)) (hl : kvs.length < 100000)
    (k : ∀ H2, Ex H0 H2 → H2 d = some (.dK (putK kvs (.inl i) v)) → Bt d H H2 → D.nx σ H2) : sDPut ta tb tv D σ H := hv H (Ex.refl H) _ fun H1 e1 => h1 H1 e1 _ fun H2 e2 => hb H2 (e1.trans e2) _ fun H3 e3 =>
  ⟨d, _, rfl, DPut.k (k := .inl i) (((e1.trans e2).trans e3) _ _ hd) (sz_lt hl), k _ (Ex.mut (e0.trans ((e1.trans e2).trans e3)) h0) upd_same (bt_ex ((e1.trans e2).trans e3))⟩
theorem q_aug2 {i : Nat} {f : Int → Int → Int} {a b : Int} (hx : σ[i]? = some (some (.int a))) (h : Ev tv σ H (.int b)) (k : ∀ H1, Ex H H1 → tz D (σ.set i (some (.int (f a b)))) H1) : tSeq (tAug i tv (ipI f)) tz D σ H := q_aug hx h k
/-- l.remove(x) -/
theorem s_remO {l : Addr} {ns : List Int} {x : Int} (h0 : H0 l = none) (e0 : Ex H0 H) (hl : H l = some (.lst (ns.map V.int))) (ha : Ev ta σ H (.ref l)) (hx : Ev tb σ H (.int x)) (hm : x ∈ ns)
    (k : ∀ H2, Ex H0 H2 → H2 l = some (.lst ((ns.erase x).map V.int)) → Bt l H H2 → D.nx σ H2) : tDrop (tBM K "list" rRemI ta (tCons tb tNil)) D σ H := ha H (Ex.refl H) _ fun H1 e1 =>
  ⟨Or.inl ⟨rfl, _, sq_of (e1 l _ hl)⟩, hx H1 e1 _ fun H2 e2 => ⟨l, ns, x, ns.idxOf x, rfl, rfl, e2 l _ (e1 l _ hl), by
    have := List.idxOf_lt_length_iff.mpr hm
    rw [List.getElem?_eq_getElem this, List.getElem_idxOf], fun j hj hc => by
    obtain ⟨h1, h2⟩ := List.getElem?_eq_some_iff.mp hc
    have := List.not_of_lt_findIdx (p := (· == x)) (xs := ns) (i := j) hj
    rw [h2] at this
    simp at this, by
    rw [← List.erase_eq_eraseIdx_of_idxOf rfl]
    exact k _ (Ex.mut (e0.trans (e1.trans e2)) h0) upd_same (bt_ex (e1.trans e2))⟩⟩
end
/-- a list of pairs -/
inductive Tp (H : Hp) : List V → List (Int × Int) → Prop
  | nil : Tp H [] []
  | cons {T : Addr} {x y : Int} {vs : List V} {l : List (Int × Int)} : H T = some (.tup [.int x, .int y]) → Tp H vs l → Tp H (.ref T :: vs) ((x, y) :: l)
theorem Tp.mono {H H' : Hp} (e : ∀ T x y, H T = some (.tup [.int x, .int y]) → H' T = some (.tup [.int x, .int y])) : ∀ {vs : List V} {l : List (Int × Int)}, Tp H vs l → Tp H' vs l
  | _, _, .nil => .nil
  | _, _, .cons h t => .cons (e _ _ _ h) (t.mono e)
theorem Tp.snoc {H : Hp} {T : Addr} {x y : Int} (hT : H T = some (.tup [.int x, .int y])) : ∀ {vs : List V} {l : List (Int × Int)}, Tp H vs l → Tp H (vs ++ [.ref T]) (l ++ [(x, y)])
  | _, _, .nil => .cons hT .nil
  | _, _, .cons h t => .cons h (t.snoc hT)
theorem Tp.len {H : Hp} : ∀ {vs : List V} {l : List (Int × Int)}, Tp H vs l → vs.length = l.length
  | _, _, .nil => rfl
  | _, _, .cons _ t => by rw [List.length_cons, List.length_cons, t.len]
theorem Tp.get {H : Hp} : ∀ {vs : List V} {l : List (Int × Int)} {i : Nat} {q : Int × Int}, Tp H vs l → l[i]? = some q → ∃ T, vs[i]? = some (.ref T) ∧ H T = some (.tup [.int q.1, .int q.2])
  | _, _, i, q, .nil, h => by simp at h
  | _, _, 0, q, .cons (T := T) h t, e => by
    have e := Option.some.inj e
    subst e
    exact ⟨T, rfl, h⟩
  | _, _, i + 1, q, .cons h t, e => t.get (i := i) (by simpa using e)
theorem Tp.bt {H H' : Hp} {l : Addr} {o : HO} (h : H l = some o) (ho : ∀ xs, o ≠ .tup xs) (b : Bt l H H') {vs : List V} {ps : List (Int × Int)} (t : Tp H vs ps) : Tp H' vs ps :=
  t.mono fun T x y hT => b _ _ (fun z => by
    subst z
    rw [h] at hT
    exact ho _ (Option.some.inj hT)) hT
/-- the hall, its places, who is left, which seats are left -/
structure Hall (C p a o m u e : Addr) (g rest S : List Int) (H : Hp) : Prop where
  hp : ∃ dx, H p = some (.ins C dx (hfs a o m u e))
  ha : H a = some (.lst (g.map V.int))
  ho : H o = some (.lst ((lst fac 0 (g.length + 1)).map V.int))
  hm : ∃ ms : List Int, H m = some (.lst (ms.map V.int)) ∧ Mrk ms S rest
  hu : ∃ s : List Int, H u = some (.lst (s.map V.int)) ∧ Sm s S rest
  he : H e = some (.lst (S.map V.int))
  am : a ≠ m
  ae : a ≠ e
  om : o ≠ m
  oe : o ≠ e
  um : u ≠ m
  ue : u ≠ e
  me : m ≠ e
  ok : Ok g
  sa : Asc S
  rl : rest.length ≤ 63
  sl : S.length ≤ g.length
theorem Hall.ex {C p a o m u e : Addr} {g rest S : List Int} {H H' : Hp} (h : Hall C p a o m u e g rest S H) (x : Ex H H') : Hall C p a o m u e g rest S H' :=
  { h with
    hp := h.hp.elim fun dx q => ⟨dx, x _ _ q⟩
    ha := x _ _ h.ha
    ho := x _ _ h.ho
    hm := h.hm.elim fun ms q => ⟨ms, x _ _ q.1, q.2⟩
    hu := h.hu.elim fun s q => ⟨s, x _ _ q.1, q.2⟩
    he := x _ _ h.he }
/-- all but the hall's own places stays -/
def hid3 (p m e : Addr) (H : Hp) : Hp := hid e (hid m (hid p H))
theorem hid3_at {p m e q : Addr} {H : Hp} (h1 : q ≠ p) (h2 : q ≠ m) (h3 : q ≠ e) : hid3 p m e H q = H q := by
  unfold hid3
  rw [hid_at h3, hid_at h2, hid_at h1]
theorem hid3_p {p m e : Addr} {H : Hp} : hid3 p m e H p = none := by
  unfold hid3 hid
  simp
theorem hid3_m {p m e : Addr} {H : Hp} : hid3 p m e H m = none := by
  unfold hid3 hid
  simp
theorem hid3_e {p m e : Addr} {H : Hp} : hid3 p m e H e = none := by
  unfold hid3 hid
  simp
theorem hid3_sub {p m e : Addr} {H : Hp} : Ex (hid3 p m e H) H := (hid_sub.trans hid_sub).trans hid_sub
def Fr (p m e : Addr) (H H2 : Hp) : Prop := Ex (hid3 p m e H) H2
theorem Fr.ex {p m e : Addr} {H0 H H2 : Hp} (f : Fr p m e H H2) (x : Ex H0 H) (hp : H0 p = none) (hm : H0 m = none) (he : H0 e = none) : Ex H0 H2 := fun q o h => by
  refine f q o ?_
  rw [hid3_at (ne_of_none h hp) (ne_of_none h hm) (ne_of_none h he)]
  exact x _ _ h
theorem Fr.at {p m e q : Addr} {H H2 : Hp} {o : HO} (f : Fr p m e H H2) (h : H q = some o) (h1 : q ≠ p) (h2 : q ≠ m) (h3 : q ≠ e) : H2 q = some o := f q o (by rw [hid3_at h1 h2 h3]; exact h)
section
variable {σ : L2.St} {H H' : Hp} {te : TE} {C p a o m u e : Addr} {g rest S : List Int}
theorem ev_h1 (X : HK K C) (L : Hall C p a o m u e g rest S H) (h : Ev te σ H (.ref p)) : EvS (tFld K te "shuns") σ H (g.map V.int) := L.hp.elim fun _ q => es_at (ev_fld h q X.io.cl X.n1 l1) L.ha
theorem ev_h2 (X : HK K C) (L : Hall C p a o m u e g rest S H) (h : Ev te σ H (.ref p)) : EvS (tFld K te "orders") σ H ((lst fac 0 (g.length + 1)).map V.int) := L.hp.elim fun _ q => es_at (ev_fld h q X.io.cl X.n2 l2) L.ho
theorem ev_h3 (X : HK K C) (L : Hall C p a o m u e g rest S H) (h : Ev te σ H (.ref p)) : Ev (tFld K te "marks") σ H (.ref m) := L.hp.elim fun _ q => ev_fld h q X.io.cl X.n3 l3
theorem ev_h4 (X : HK K C) (L : Hall C p a o m u e g rest S H) (h : Ev te σ H (.ref p)) : Ev (tFld K te "sums") σ H (.ref u) := L.hp.elim fun _ q => ev_fld h q X.io.cl X.n4 l4
theorem ev_h5 (X : HK K C) (L : Hall C p a o m u e g rest S H) (h : Ev te σ H (.ref p)) : Ev (tFld K te "seats") σ H (.ref e) := L.hp.elim fun _ q => ev_fld h q X.io.cl X.n5 l5
end
/-! ### Hall.__init__ -/
theorem sc_Hall___init__ : FnScope ["self", "shuns"] ["self", "shuns"] (defScope (inClass (topS 16) 0)) :=
  ⟨rfl, rfl, rfl, by decide +kernel, rfl, by decide +kernel, by decide +kernel⟩

def spInitH (C : Addr) : Sp := fun vs H Q _ => ∃ (p dx a : Addr) (g : List Int), vs = [.ref p, .ref a] ∧ H p = some (.ins C dx []) ∧ H a = some (.lst (g.map V.int)) ∧ Ok g ∧
  ∀ o m u e H2, H m = none → H e = none → Ex (hid p H) H2 → Hall C p a o m u e g g (seats g.length) H2 → Q .non H2
theorem ok_initH {f f1 f2 f3 C : Addr} {fd fd1 fd2 fd3 : FuncData} (F : Fun K "__init__" "Hall.__init__" (inClass (topS 16) 0) f fd) (B : Bi mg) (D_orders_to : Df P w K mg base CX0 1 "orders_to" f1 fd1 ["many"] spOrders)
    (D_shunners : Df P w K mg base CX0 1 "shunners" f2 fd2 ["shuns"] spShunners) (D_sums_of : Df P w K mg base CX0 2 "sums_of" f3 fd3 ["marks"] spSums) (X : HK K C) : FnOk P w K mg base CX0 3 f fd ["self", "shuns"] (spInitH C) := by
  refine F.ok sc_Hall___init__ (fun vs H Q E h => ?_) (fun cdv A outer s H vs Q E hr h => ?_)
  · obtain ⟨p, dx, a, g, rfl, _⟩ := h
    rfl
  · obtain ⟨p, dx, a, g, rfl, hp, ha, ok, k⟩ := h
    obtain ⟨hg, hz⟩ := id ok
    refine ⟨_, (pss_cons (kpsFld K (pv 0) (pv 1))
 (pss_cons (kpsFld K (pv 0) (pe_call D_orders_to.ok (hr.mono (by decide)) (by rfl) D_orders_to.g D_orders_to.kp D_orders_to.b .nil pass0 (pa_cons (pe_callB (kLen K) (by rfl) B.len PySem.boot_len (pa_cons (pv 1) pa_nil)) pa_nil)))
 (pss_cons (kpsFld K (pv 0) (pe_call D_shunners.ok (hr.mono (by decide)) (by rfl) D_shunners.g D_shunners.kp D_shunners.b .nil pass0 (pa_cons (pv 1) pa_nil)))
 (pss_cons (kpsFld K (pv 0) (pe_call D_sums_of.ok (hr.mono (by decide)) (by rfl) D_sums_of.g D_sums_of.kp D_sums_of.b .nil pass0 (pa_cons (kFld K (pv 0)) pa_nil)))
 (pss_one (kpsFld K (pv 0) (pe_listRg rfl (by rfl) B.list (prg_1 (by rfl) B.range (pe_callB (kLen K) (by rfl) B.len PySem.boot_len (pa_cons (pv 1) pa_nil)))))))))), ?_⟩
    have h0 : hid p H p = none := by unfold hid; rw [if_pos rfl]
    have nap : a ≠ p := fun z => by rw [z, hp] at ha; cases ha
    have cl := X.io.cl
    refine q_fldO h0 hid_sub hp (ev_var rfl) (ev_var rfl) cl X.n1 (by show 0 < 1000; decide) fun H1 e1 p1 b1 => ?_
    have a1 := b1 _ _ nap ha
    refine q_fldL h0 e1 p1 (call_orders (n := g.length) (ev_is (ev_lenR (er_var rfl (sq_of a1))) (by rw [ints_len])) (by omega)) (ev_var rfl) cl X.n2 (by show 1 < 1000; decide) fun o H2 ho1 e2 p2 o2 b2 => ?_
    have a2 := b2 _ _ nap a1
    have nop : o ≠ p := (ne_of_none p1 ho1).symm
    refine q_fldL h0 e2 p2 (call_shunners (es_var rfl a2) ok) (ev_var rfl) cl X.n3 (by show 2 < 1000; decide) fun m H3 hm2 e3 p3 m3 b3 => ?_
    have a3 := b3 _ _ nap a2
    have o3 := b3 _ _ nop o2
    have nmp : m ≠ p := (ne_of_none p2 hm2).symm
    refine q_fldL h0 e3 p3 (call_sums (l := marks g.length g) (es_at (ev_fld (ev_var rfl) p3 cl X.n3 (by rfl)) m3) (marks_ok hz) (by rw [marks_len]; omega)) (ev_var rfl) cl X.n4 (by show 3 < 1000; decide) fun u H4 hu3 e4 p4 u4 b4 => ?_
    have a4 := b4 _ _ nap a3
    have o4 := b4 _ _ nop o3
    have m4 := b4 _ _ nmp m3
    have nup : u ≠ p := (ne_of_none p3 hu3).symm
    refine s_fldL h0 e4 p4 (xs := (seats g.length).map V.int) (el_is (el_rg (n := (g.length : Int)) (ev_is (ev_lenR (er_var rfl (sq_of a4))) (by rw [ints_len])) (by omega) (by omega)) (rg_ints g.length)) (ev_var rfl) cl X.n5 (by show 4 < 1000; decide) fun e H5 he4 e5 p5 q5 b5 => ?_
    have hfr : ∀ q, q ≠ p → hid p H q = none → H q = none := fun q n h => by rw [hid_at n] at h; exact h
    refine k o m u e H5 (hfr m nmp (fresh_back e2 hm2)) (hfr e ((ne_of_none p4 he4).symm) (fresh_back e4 he4)) e5
      { hp := ⟨dx, p5⟩, ha := b5 _ _ nap a4, ho := b5 _ _ nop o4, hm := ⟨_, b5 _ _ nmp m4, Mrk.init g⟩, hu := ⟨_, b5 _ _ nup u4, Sm.init (by omega)⟩, he := q5,
        am := ne_of_none a2 hm2, ae := ne_of_none a4 he4, om := ne_of_none o2 hm2, oe := ne_of_none o4 he4, um := (ne_of_none m3 hu3).symm, ue := ne_of_none u4 he4, me := ne_of_none m4 he4, ok := ok, sa := seats_asc _, rl := hz, sl := by rw [seats_len]; exact Nat.le_refl _ }
theorem make_hall {σ : L2.St} {H : Hp} {te : TE} {g : List Int} {C : Addr} {E : XK} (h : EvS te σ H (g.map V.int)) (ok : Ok g) : EvX (tMake C (spInitH C) [] E (tCons te tNil)) σ H (fun H1 p H2 => ∃ a o m u e, H1 m = none ∧ H1 e = none ∧ Hall C p a o m u e g g (seats g.length) H2) :=
  ex_make (eb_s h eb_nil) (fun a b p c x _ ⟨a', o, m, u, e, h1, h2, h3⟩ => ⟨a', o, m, u, e, fresh_back x h1, fresh_back x h2, h3⟩) fun vs H1 p dx x ⟨b, r, e1, hb, e2⟩ hp hdx ne Q k => by
    subst e2 e1
    have nbp : b ≠ p := ne_of_none hb hp
    have nbd : b ≠ dx := ne_of_none hb hdx
    have e1 : Ex H1 (upd (upd H1 dx (.own p)) p (.ins C dx [])) := Ex.mut (Ex.new hdx) hp
    refine ⟨p, dx, b, g, rfl, upd_same, e1 _ _ hb, ok, fun o m u e H2 hm he x2 L => k H2 (fun q oo hq => x2 _ _ ?_) ⟨b, o, m, u, e, fresh_back e1 hm, fresh_back e1 he, L⟩⟩
    rw [hid_at (ne_of_none hq hp)]
    exact e1 _ _ hq
/-! ### Hall.ways -/
theorem sc_Hall_ways : FnScope ["self", "sums", "many", "found", "k", "part"] ["self", "sums", "many"] (defScope (inClass (topS 16) 1)) :=
  ⟨rfl, rfl, rfl, by decide +kernel, rfl, by decide +kernel, by decide +kernel⟩

def spWays (C : Addr) : Sp := fun vs H Q _ => ∃ (p b a o m u e dx : Addr) (n k : Nat) (s : List Int), vs = [.ref p, .ref b, .int (k : Int)] ∧ H p = some (.ins C dx (hfs a o m u e)) ∧ H o = some (.lst ((lst fac 0 (n + 1)).map V.int)) ∧ n ≤ 63 ∧ k ≤ n ∧
  H b = some (.lst (s.map V.int)) ∧ s.length ≤ 64 ∧ (∀ j, (cf s j).natAbs < 2 ^ 400) ∧ RetV (.int (ws s k)) H Q
theorem ok_ways {f C : Addr} {fd : FuncData} (F : Fun K "ways" "Hall.ways" (inClass (topS 16) 1) f fd) (B : Bi mg) (X : HK K C) : FnOk P w K mg base CX0 1 f fd ["self", "sums", "many"] (spWays C) := by
  refine F.ok sc_Hall_ways (fun vs H Q E h => ?_) (fun cdv A outer s H vs Q E hr h => ?_)
  · obtain ⟨p, b, a, o, m, u, e, dx, n, k, s, rfl, _⟩ := h
    rfl
  · obtain ⟨p, b, a, o, m, u, e, dx, n, k, s, rfl, hp, ho, hn, hk, hb, hs, big, kk⟩ := h
    refine ⟨_, (pss_cons (ps_set (i := 3) sc_Hall_ways.nd rfl (Or.inl rfl) pe_int)
 (pss_cons (ps_for PassesOwn.never rfl (pi_range1 (by rfl) B.range (pa_cons (pe_callB kMin2 (by rfl) B.min (by decide +kernel) (pa_cons (pe_callB (kLen K) (by rfl) B.len PySem.boot_len (pa_cons (pv 1) pa_nil)) (pa_cons (pe_op op_add (pv 2) pe_int) pa_nil))) pa_nil)) (pg_name (i := 4) sc_Hall_ways.nd rfl (Or.inl rfl))
 (pss_cons (ps_set (i := 5) sc_Hall_ways.nd rfl (Or.inl rfl) (pe_op op_mulW (pe_ix (kIx K) (pv 1) (pv 4) (fun _ _ => rfl)) (pe_ix (kIx K) (kFld K (pv 0)) (pe_op op_sub (pv 2) (pv 4)) (fun _ _ => rfl))))
 (pss_one (ps_aug (i := 3) sc_Hall_ways.nd rfl (Or.inl rfl) (pe_ifExp (pt_cmpR op_eq (pe_op op_mod (pv 4) pe_int) pe_int (nomark _)) (pv 5) (pe_un un_neg (pv 5))) ip_add))))
 (pss_one (ps_ret (pv 3))))), ?_⟩
    refine q_asg (v := .int 0) ev_c fun H1 e1 => ?_
    refine q_forR1 (n := ((min s.length (k + 1) : Nat) : Int)) (ea_cons (ev_is (ev_mn2 (ev_is (ev_lenR (er_var rfl (sq_of (e1 _ _ hb)))) (by rw [ints_len])) (ev_I0 (ev_var rfl) ev_c)) (congrArg V.int (by split <;> omega))) ea_nil) ⟨by omega, by omega⟩
      (fun i σ' H' => (∃ v4 v5, σ' = [some (.ref p), some (.ref b), some (.int (k : Int)), some (.int (asum (fun j => cf s j * fac (k - j)) i)), v4, v5]) ∧ Ex H H') (fun H2 e2 => ⟨⟨_, _, rfl⟩, e1.trans e2⟩) ?_ ?_
    · rintro i σ' H2 hi ⟨⟨v4, v5, rfl⟩, e2⟩
      refine q_asg (v := .int (cf s i * fac (k - i))) (ev_I (ev_ixR (er_var rfl (sq_of (e2 _ _ hb))) (ev_var rfl) (at_int rfl (cf_get (by omega)))) (ev_ixR (er_at (ev_fld (ev_var rfl) (e2 _ _ hp) X.io.cl X.n2 l2) (sq_of (e2 _ _ ho))) (ev_I0 (ev_var rfl) (ev_var rfl)) (at_int (j := k - i) (by omega) (lst_at (by omega)))) (wide_mul (big i) (fac_big (by omega)) (by decide) (by decide) (by decide))) fun H3 e3 => ?_
      refine s_aug (a := asum (fun j => cf s j * fac (k - j)) i) (b := if i % 2 = 0 then cf s i * fac (k - i) else -(cf s i * fac (k - i))) rfl (ev_is (ev_ite (et_test (ev_eqI (ev_I (ev_var rfl) ev_c (by decide)) ev_c)) (fun _ => ev_var rfl) fun _ => ev_U_neg (ev_var rfl)) ?_) fun H4 e4 => ⟨⟨_, _, rfl⟩, (e2.trans e3).trans e4⟩
      by_cases c : i % 2 = 0
      · rw [if_pos c, if_pos (decide_eq_true (by omega))]
      · rw [if_neg c, if_neg (by rw [decide_eq_false (by omega)]; exact Bool.false_ne_true)]
    · rintro σ' H2 ⟨⟨v4, v5, rfl⟩, e2⟩
      exact s_ret (ev_var rfl) fun H3 e3 => kk H3 (e2.trans e3)
theorem call_ways {σ : L2.St} {H : Hp} {to ta tb : TE} {C p a o m u e : Addr} {g rest S s : List Int} {k : Nat} {E : XK} (h : Ev to σ H (.ref p)) (L : Hall C p a o m u e g rest S H) (ha : EvS ta σ H (s.map V.int)) (hb : Ev tb σ H (.int (k : Int))) (hk : k ≤ g.length) (hs : s.length ≤ 64) (big : ∀ j, (cf s j).natAbs < 2 ^ 400) :
    Ev (tMeth C "ways" (spWays C) [] E to (tCons ta (tCons tb tNil))) σ H (.int (ws s k)) :=
  L.hp.elim fun dx hp => ev_methB h hp l_ways (eb_s ha (eb_v hb eb_nil)) fun vs H1 x ⟨q, r, e1, hq, r', e2, e3⟩ Q kk => by
    subst e3 e2 e1
    exact ⟨p, q, a, o, m, u, e, dx, g.length, k, s, rfl, x _ _ hp, x _ _ L.ho, L.ok.2, hk, hq, hs, big, kk⟩
/-! ### Hall.whole -/
theorem sc_Hall_whole : FnScope ["self"] ["self"] (defScope (inClass (topS 16) 2)) :=
  ⟨rfl, rfl, rfl, by decide +kernel, rfl, by decide +kernel, by decide +kernel⟩

def spWholeH (C : Addr) : Sp := fun vs H Q _ => ∃ (p a o m u e : Addr) (g rest S : List Int), vs = [.ref p] ∧ Hall C p a o m u e g rest S H ∧ S.length = rest.length ∧ RetV (.int (cnt S rest)) H Q
theorem ok_wholeH {f f1 C : Addr} {fd fd1 : FuncData} (F : Fun K "whole" "Hall.whole" (inClass (topS 16) 2) f fd) (B : Bi mg) (X : HK K C) (D_ways : Dm P w K mg base CX0 1 "ways" C f1 fd1 ["self", "sums", "many"] (spWays C)) : FnOk P w K mg base CX0 2 f fd ["self"] (spWholeH C) := by
  refine F.ok sc_Hall_whole (fun vs H Q E h => ?_) (fun cdv A outer s H vs Q E hr h => ?_)
  · obtain ⟨p, a, o, m, u, e, g, rest, S, rfl, _⟩ := h
    rfl
  · obtain ⟨p, a, o, m, u, e, g, rest, S, rfl, L, hl, k⟩ := h
    refine ⟨_, (pss_one (ps_ret (pe_meth (pv 0) D_ways.cl D_ways.m D_ways.ok (hr.mono (by decide)) D_ways.b .nil pass0 (pa_cons (kFld K (pv 0)) (pa_cons (pe_callB (kLen K) (by rfl) B.len PySem.boot_len (pa_cons (kFld K (pv 0)) pa_nil)) pa_nil))))), ?_⟩
    obtain ⟨s, hu, sm⟩ := L.hu
    have := L.sl
    refine s_ret (ev_is (call_ways (k := S.length) (ev_var rfl) L (es_at (ev_h4 X L (ev_var rfl)) hu) (ev_is (ev_lenR (er_at (ev_h5 X L (ev_var rfl)) (sq_of L.he))) (by rw [ints_len])) L.sl sm.len fun j => ?_) (by rw [ws_cnt sm.eq L.sa.nodup hl hl])) k
    rw [sm.eq]
    exact rk_big' L.rl (by have := L.ok.2; omega) j
theorem call_wholeH {σ : L2.St} {H : Hp} {to : TE} {C p a o m u e : Addr} {g rest S : List Int} {E : XK} (h : Ev to σ H (.ref p)) (L : Hall C p a o m u e g rest S H) (hl : S.length = rest.length) : Ev (tMeth C "whole" (spWholeH C) [] E to tNil) σ H (.int (cnt S rest)) :=
  L.hp.elim fun dx hp => ev_methB h hp l_whole eb_nil fun vs H1 x e1 Q kk => by
    subst e1
    exact ⟨p, a, o, m, u, e, g, rest, S, rfl, L.ex x, hl, kk⟩
end


section
variable {P : Program} {w : World} {K : PySem.W.Frag} {mg : Str → Option Value} {base : Heap}
/-! ### Hall.turn -/
theorem sc_Hall_turn : FnScope ["self", "guest", "seat", "many"] ["self", "guest"] (defScope (inClass (topS 16) 3)) :=
  ⟨rfl, rfl, rfl, by decide +kernel, rfl, by decide +kernel, by decide +kernel⟩

def spTurn (C : Addr) : Sp := fun vs H Q _ => ∃ (p a o m u e : Addr) (g rest S : List Int) (i : Nat) (t : Int), vs = [.ref p, .int (i : Int)] ∧ Hall C p a o m u e g (t :: rest) S H ∧ g[i]? = some t ∧
  ∀ u2 H2, Fr p m e H H2 → (u2 = u ∨ H u2 = none) → Hall C p a o m u2 e g rest S H2 → Q .non H2
theorem ok_turn {f f1 f2 C : Addr} {fd fd1 fd2 : FuncData} (F : Fun K "turn" "Hall.turn" (inClass (topS 16) 3) f fd) (B : Bi mg) (X : HK K C) (D_with_part : Df P w K mg base CX0 1 "with_part" f1 fd1 ["sums", "many"] spWith) (D_without_part : Df P w K mg base CX0 1 "without_part" f2 fd2 ["sums", "many"] spWithout) :
    FnOk P w K mg base CX0 2 f fd ["self", "guest"] (spTurn C) := by
  refine F.ok sc_Hall_turn (fun vs H Q E h => ?_) (fun cdv A outer s H vs Q E hr h => ?_)
  · obtain ⟨p, a, o, m, u, e, g, rest, S, i, t, rfl, _⟩ := h
    rfl
  · obtain ⟨p, a, o, m, u, e, g, rest, S, i, t, rfl, L, hi, k⟩ := h
    refine ⟨_, (pss_cons (ps_set (i := 2) sc_Hall_turn.nd rfl (Or.inl rfl) (pe_ix (kIx K) (kFld K (pv 0)) (pv 1) (fun _ _ => rfl)))
 (pss_one (ps_if (pt_cmpR (kIn K) (pv 2) (kFld K (pv 0)) (by rfl))
 (pss_cons (ps_set (i := 3) sc_Hall_turn.nd rfl (Or.inl rfl) (pe_ix (kIx K) (kFld K (pv 0)) (pv 2) (fun _ _ => rfl)))
 (pss_cons (kpsFld K (pv 0) (pe_call D_with_part.ok (hr.mono (by decide)) (by rfl) D_with_part.g D_with_part.kp D_with_part.b .nil pass0 (pa_cons (pe_call D_without_part.ok (hr.mono (by decide)) (by rfl) D_without_part.g D_without_part.kp D_without_part.b .nil pass0 (pa_cons (kFld K (pv 0)) (pa_cons (pv 3) pa_nil))) (pa_cons (pe_op op_sub (pv 3) pe_int) pa_nil))))
 (pss_one (ps_asg (pe_op op_sub (pv 3) pe_int) (pg_sub (kFld K (pv 0)) (pv 2) set_list)))))
 pss_nil))), ?_⟩
    refine q_asg (v := .int t) (ev_ixR (er_of (ev_h1 X L (ev_var rfl))) (ev_var rfl) (at_int rfl hi)) fun H1 e1 => ?_
    have L1 := L.ex e1
    have rl := L.rl
    have rl' : rest.length + 1 ≤ 63 := rl
    refine s_when (b := decide (t ∈ S)) (et_test (ev_inL (ev_var rfl) (er_at (ev_h5 X L1 (ev_var rfl)) (sq_of L1.he)))) (fun hb H2 e2 => ?_) fun hb H2 e2 => ?_
    · have ht := of_decide_eq_true hb
      have L2 := L1.ex e2
      obtain ⟨ms, hm, mk⟩ := L2.hm
      obtain ⟨s, hu, sm⟩ := L2.hu
      obtain ⟨dx, hp⟩ := L2.hp
      obtain ⟨j, rfl, hj⟩ := mk _ ht
      have c0 := ct_nn (j : Int) rest
      have cs : ct (j : Int) ((j : Int) :: rest) = ct (j : Int) rest + 1 := ct_same _ _
      have cl : ct (j : Int) rest ≤ (rest.length : Int) := ct_le _ _
      have sl := sm.len
      refine q_asg (v := .int (ct (j : Int) ((j : Int) :: rest))) (ev_ixR (er_at (ev_h3 X L2 (ev_var rfl)) (sq_of hm)) (ev_var rfl) (at_int rfl hj)) fun H3 e3 => ?_
      have L3 := L2.ex e3
      have x03 := ((e1.trans e2).trans e3)
      have eF : Ex (hid3 p m e H) H3 := hid3_sub.trans x03
      have lw := wo_len_le s (ct (j : Int) ((j : Int) :: rest))
      refine q_fldL hid3_p eF (e3 _ _ hp) (call_with (es_new (call_without (es_at (ev_h4 X L3 (ev_var rfl)) (e3 _ _ hu)) (ev_var rfl) (by omega) ⟨by omega, by omega⟩)) (ev_I0 (ev_var rfl) ev_c) (by omega) ⟨by omega, by omega⟩) (ev_var rfl) X.io.cl X.n4 (by show 5 < 1000; decide) fun q H4 hq e4 p4 q4 b4 => ?_
      rw [put_sums] at p4
      have pm : m ≠ p := fun z => by rw [z, hp] at hm; cases hm
      have pe : e ≠ p := fun z => by have := L2.he; rw [z, hp] at this; cases this
      have pa : a ≠ p := fun z => by have := L2.ha; rw [z, hp] at this; cases this
      have po : o ≠ p := fun z => by have := L2.ho; rw [z, hp] at this; cases this
      have m4 := b4 _ _ pm (e3 _ _ hm)
      have nqm : q ≠ m := (ne_of_none (e3 _ _ hm) hq).symm
      have nqe : q ≠ e := (ne_of_none L3.he hq).symm
      refine s_setO (j := j) hid3_m e4 m4 (ev_I0 (ev_var rfl) ev_c) (ev_fld (ev_var rfl) p4 X.io.cl X.n3 l3) (ev_var rfl) (by rw [ints_len]; exact (List.getElem?_eq_some_iff.mp hj).1) fun H5 e5 m5 b5 => ?_
      refine k q H5 e5 (.inr (fresh_back x03 hq))
        { L with
          hp := ⟨dx, b5 _ _ pm.symm p4⟩, ha := b5 _ _ L.am (b4 _ _ pa L3.ha), ho := b5 _ _ L.om (b4 _ _ po L3.ho), hm := ⟨_, by rw [m5, ints_set], mk.turn (List.getElem?_eq_some_iff.mp hj).1⟩,
          hu := ⟨_, b5 _ _ nqm q4, sm.turn L.sa.nodup ht⟩, he := b5 _ _ L.me.symm (b4 _ _ pe L3.he), um := nqm, ue := nqe, rl := by omega }
    · have ht := of_decide_eq_false hb
      have x02 := e1.trans e2
      refine k u H2 (hid3_sub.trans x02) (.inl rfl) { L.ex x02 with hm := ?_, hu := ?_, rl := by omega }
      · obtain ⟨ms, hm, mk⟩ := (L.ex x02).hm
        exact ⟨ms, hm, mk.out ht⟩
      · obtain ⟨s, hu, sm⟩ := (L.ex x02).hu
        exact ⟨s, hu, sm.out ht⟩
/-! ### Hall.take -/
theorem sc_Hall_take : FnScope ["self", "seat"] ["self", "seat"] (defScope (inClass (topS 16) 5)) :=
  ⟨rfl, rfl, rfl, by decide +kernel, rfl, by decide +kernel, by decide +kernel⟩

def spTake (C : Addr) : Sp := fun vs H Q _ => ∃ (p a o m u e : Addr) (g rest S : List Int) (x : Int), vs = [.ref p, .int x] ∧ Hall C p a o m u e g rest S H ∧ x ∈ S ∧
  ∀ u2 H2, Fr p m e H H2 → (u2 = u ∨ H u2 = none) → Hall C p a o m u2 e g rest (S.erase x) H2 → Q .non H2
theorem ok_take {f f1 C : Addr} {fd fd1 : FuncData} (F : Fun K "take" "Hall.take" (inClass (topS 16) 5) f fd) (B : Bi mg) (X : HK K C) (D_without_part : Df P w K mg base CX0 1 "without_part" f1 fd1 ["sums", "many"] spWithout) : FnOk P w K mg base CX0 2 f fd ["self", "seat"] (spTake C) := by
  refine F.ok sc_Hall_take (fun vs H Q E h => ?_) (fun cdv A outer s H vs Q E hr h => ?_)
  · obtain ⟨p, a, o, m, u, e, g, rest, S, x, rfl, _⟩ := h
    rfl
  · obtain ⟨p, a, o, m, u, e, g, rest, S, x, rfl, L, hx, k⟩ := h
    refine ⟨_, (pss_cons (kpsFld K (pv 0) (pe_call D_without_part.ok (hr.mono (by decide)) (by rfl) D_without_part.g D_without_part.kp D_without_part.b .nil pass0 (pa_cons (kFld K (pv 0)) (pa_cons (pe_ix (kIx K) (kFld K (pv 0)) (pv 1) (fun _ _ => rfl)) pa_nil))))
 (pss_one (ps_expr (kBm K PySem.F.plainAttrs_list PySem.F.slot_list_remove PySem.F.type_list_remove mt_remove (kFld K (pv 0)) (pa_cons (pv 1) pa_nil))))), ?_⟩
    obtain ⟨ms, hm, mk⟩ := L.hm
    obtain ⟨s, hu, sm⟩ := L.hu
    obtain ⟨dx, hp⟩ := L.hp
    obtain ⟨j, rfl, hj⟩ := mk _ hx
    have c0 := ct_nn (j : Int) rest
    have cl : ct (j : Int) rest ≤ (rest.length : Int) := ct_le _ _
    have rl := L.rl
    have sl := sm.len
    refine q_fldL hid3_p (hid3_sub (m := m) (e := e)) hp (call_without (es_at (ev_h4 X L (ev_var rfl)) hu) (ev_ixR (er_at (ev_h3 X L (ev_var rfl)) (sq_of hm)) (ev_var rfl) (at_int rfl hj)) (by omega) ⟨by omega, by omega⟩) (ev_var rfl) X.io.cl X.n4 (by show 5 < 1000; decide) fun q H4 hq e4 p4 q4 b4 => ?_
    rw [put_sums] at p4
    have pm : m ≠ p := fun z => by rw [z, hp] at hm; cases hm
    have pe : e ≠ p := fun z => by have := L.he; rw [z, hp] at this; cases this
    have pa : a ≠ p := fun z => by have := L.ha; rw [z, hp] at this; cases this
    have po : o ≠ p := fun z => by have := L.ho; rw [z, hp] at this; cases this
    have nqm : q ≠ m := (ne_of_none hm hq).symm
    have nqe : q ≠ e := (ne_of_none L.he hq).symm
    refine s_remO hid3_e e4 (b4 _ _ pe L.he) (ev_fld (ev_var rfl) p4 X.io.cl X.n5 l5) (ev_var rfl) hx fun H5 e5 r5 b5 => ?_
    have le := List.length_erase_of_mem hx
    have hsl := L.sl
    refine k q H5 e5 (.inr hq)
      { L with
        hp := ⟨dx, b5 _ _ pe.symm p4⟩, ha := b5 _ _ L.ae (b4 _ _ pa L.ha), ho := b5 _ _ L.oe (b4 _ _ po L.ho), hm := ⟨ms, b5 _ _ L.me (b4 _ _ pm hm), mk.take⟩,
        hu := ⟨_, b5 _ _ nqe q4, sm.take hx⟩, he := r5, um := nqm, ue := nqe, sa := L.sa.erase _, sl := by omega }
/-! ### Hall.choices -/
theorem putK_le (c : List (Key × V)) (k : Key) (x : V) : (putK c k x).length ≤ c.length + 1 := by
  unfold putK
  split
  · rw [List.length_map]; omega
  · rw [List.length_append]; exact Nat.le_refl _
theorem sc_Hall_choices : FnScope ["self", "guest", "found", "told", "seat", "many"] ["self", "guest"] (defScope (inClass (topS 16) 4)) :=
  ⟨rfl, rfl, rfl, by decide +kernel, rfl, by decide +kernel, by decide +kernel⟩

def spChoices (C : Addr) : Sp := fun vs H Q _ => ∃ (p a o m u e : Addr) (g rest S : List Int) (i : Nat) (t : Int), vs = [.ref p, .int (i : Int)] ∧ Hall C p a o m u e g rest S H ∧ g[i]? = some t ∧ S.length = rest.length + 1 ∧
  ∀ q us H2, H q = none → Ex H H2 → H2 q = some (.lst us) → Tp H2 us (chs S t rest) → Q (.ref q) H2
def chsT (S : List Int) (t : Int) (rest l : List Int) : List (Int × Int) := (l.filter fun s => decide (s ≠ t)).map fun s => (s, cnt (S.erase s) rest)
theorem ok_choices {f f1 f2 C : Addr} {fd fd1 fd2 : FuncData} (F : Fun K "choices" "Hall.choices" (inClass (topS 16) 4) f fd) (B : Bi mg) (X : HK K C) (D_ways : Dm P w K mg base CX0 1 "ways" C f1 fd1 ["self", "sums", "many"] (spWays C)) (D_without_part : Df P w K mg base CX0 1 "without_part" f2 fd2 ["sums", "many"] spWithout) :
    FnOk P w K mg base CX0 2 f fd ["self", "guest"] (spChoices C) := by
  refine F.ok sc_Hall_choices (fun vs H Q E h => ?_) (fun cdv A outer s H vs Q E hr h => ?_)
  · obtain ⟨p, a, o, m, u, e, g, rest, S, i, t, rfl, _⟩ := h
    rfl
  · obtain ⟨p, a, o, m, u, e, g, rest, S, i, t, rfl, L, hi, hl, k⟩ := h
    refine ⟨_, (pss_cons (ps_set (i := 2) sc_Hall_choices.nd rfl (Or.inl rfl) (pe_lst pa_nil))
 (pss_cons (ps_set (i := 3) sc_Hall_choices.nd rfl (Or.inl rfl) pe_dnewK)
 (pss_cons (ps_for PassesOwn.never rfl (kpList K (kFld K (pv 0))) (pg_name (i := 4) sc_Hall_choices.nd rfl (Or.inl rfl))
 (pss_one (ps_if (pt_cmpR op_ne (pv 4) (pe_ix (kIx K) (kFld K (pv 0)) (pv 1) (fun _ _ => rfl)) (nomark _))
 (pss_cons (ps_set (i := 5) sc_Hall_choices.nd rfl (Or.inl rfl) (pe_ix (kIx K) (kFld K (pv 0)) (pv 4) (fun _ _ => rfl)))
 (pss_cut (ps_if (pt_cmp (pc_dnotin (hu_of hr) (pv 5) (pv 3)))
 (pss_one (ps_dput (hu_of hr) (pv 3) (pv 5) (pe_meth (pv 0) D_ways.cl D_ways.m D_ways.ok (hr.mono (by decide)) D_ways.b .nil pass0 (pa_cons (pe_call D_without_part.ok (hr.mono (by decide)) (by rfl) D_without_part.g D_without_part.kp D_without_part.b .nil pass0 (pa_cons (kFld K (pv 0)) (pa_cons (pv 5) pa_nil))) (pa_cons (pe_op op_sub (pe_callB (kLen K) (by rfl) B.len PySem.boot_len (pa_cons (kFld K (pv 0)) pa_nil)) pe_int) pa_nil))) rfl))
 pss_nil)
 (pss_one (ps_expr (kBm K PySem.F.plainAttrs_list PySem.F.slot_list_append PySem.F.type_list_append mt_append (pv 2) (pa_cons (pe_tup (pa_cons (pv 4) (pa_cons (pe_dget (hu_of hr) (pv 3) (pv 5) (fun _ _ => rfl)) pa_nil))) pa_nil))))))
 pss_nil)))
 (pss_one (ps_ret (pv 2)))))), ?_⟩
    obtain ⟨ms, hm, mk⟩ := L.hm
    obtain ⟨s, hu, sm⟩ := L.hu
    have rl := L.rl
    have sl := sm.len
    have hsl := L.sl
    have hz := L.ok.2
    refine q_asgL (xs := []) (el_lst ea_nil (by decide)) fun pf H1 hpf e1 h1 => ?_
    show tSeq (tAsg tDNewK (gName 3)) _ _ _ _
    intro pd hpd
    have e2 : Ex H1 (upd H1 pd (.dK [])) := Ex.new hpd
    have nfd : pf ≠ pd := ne_of_none h1 hpd
    have h2 : (upd H1 pd (.dK [])) pf = some (.lst []) := e2 _ _ h1
    generalize hG : upd H1 pd (.dK []) = H2 at e2 h2
    have d2 : H2 pd = some (.dK []) := by rw [← hG]; exact upd_same
    have hpd' : H pd = none := fresh_back e1 hpd
    have W : ∀ x, x ∈ S → ws (wo s (ct x rest)) (S.length - 1) = cnt (S.erase x) rest := fun x hx => by
      have le := List.length_erase_of_mem hx
      exact ws_cnt (sm.take hx).eq (L.sa.erase x).nodup (by omega) (by omega)
    refine q_forLn (xs := S.map V.int) (ev_h5 X (L.ex (e1.trans e2)) (ev_var rfl)) (sq_of ((L.ex (e1.trans e2)).he)) (fun j σ' H' => (∃ v4 v5, σ' = [some (.ref p), some (.int (i : Int)), some (.ref pf), some (.ref pd), v4, v5]) ∧ Ex H H' ∧ (∃ us, H' pf = some (.lst us) ∧ Tp H' us (chsT S t rest (S.take j))) ∧
        ∃ kvs, H' pd = some (.dK kvs) ∧ kvs.length ≤ j ∧ ∀ y v, valV kvs (.inl y) = some v → v = .int (ws (wo s y) (S.length - 1)))
      (fun H3 e3 => ⟨⟨_, _, rfl⟩, (e1.trans e2).trans e3, ⟨[], e3 _ _ h2, .nil⟩, [], e3 _ _ d2, Nat.le_refl _, fun y v h => by simp [valV] at h⟩) (fun j σ' H' _ q => sq_of (q.2.1 _ _ L.he)) ?_ ?_
    · rintro j x σ' H' hx ⟨⟨v4, v5, rfl⟩, eH, ⟨us, hf, tp⟩, kvs, hd, hk, hv⟩
      obtain ⟨y, hy, rfl⟩ := of_ints hx
      have hjl := (List.getElem?_eq_some_iff.mp hy).1
      have ym : y ∈ S := List.mem_of_getElem? hy
      have tk : S.take (j + 1) = S.take j ++ [y] := by rw [List.take_add_one, hy]; rfl
      have LH := L.ex eH
      have tpl := tp.len
      have hcl : (chsT S t rest (S.take j)).length ≤ j := by
        unfold chsT
        rw [List.length_map]
        refine Nat.le_trans (List.length_filter_le _ _) ?_
        rw [List.length_take]
        omega
      refine s_when (b := !decide (y = t)) (et_test (ev_neI (ev_var rfl) (ev_ixR (er_of (ev_h1 X LH (ev_var rfl))) (ev_var rfl) (at_int rfl hi)))) (fun hb H3 e3 => ?_) fun hb H3 e3 => ?_
      · have ne : ¬ y = t := by simpa using hb
        have L3 := LH.ex e3
        obtain ⟨z, ez, hjz⟩ := mk _ ym
        have c0 := ct_nn y rest
        have cl : ct y rest ≤ (rest.length : Int) := ct_le _ _
        have m3 : H3 m = some (.lst (ms.map V.int)) := e3 _ _ (eH _ _ hm)
        refine q_asg (v := .int (ct y rest)) (ev_ixR (er_at (ev_h3 X L3 (ev_var rfl)) (sq_of m3)) (ev_var rfl) (at_int ez hjz)) fun H4 e4 => ?_
        have L4 := L3.ex e4
        have e04 := (eH.trans e3).trans e4
        have d4 := e4 _ _ (e3 _ _ hd)
        have f4 := e4 _ _ (e3 _ _ hf)
        have tp4 : Tp H4 us (chsT S t rest (S.take j)) := tp.mono fun T x y h => e4 _ _ (e3 _ _ h)
        refine q_cut (M := fun σ' H5 => σ' = [some (.ref p), some (.int (i : Int)), some (.ref pf), some (.ref pd), some (.int y), some (.int (ct y rest))] ∧ Ex H H5 ∧ H5 pf = some (.lst us) ∧ Tp H5 us (chsT S t rest (S.take j)) ∧
          ∃ kvs, H5 pd = some (.dK kvs) ∧ kvs.length ≤ j + 1 ∧ valV kvs (.inl (ct y rest)) = some (.int (ws (wo s (ct y rest)) (S.length - 1))) ∧ ∀ y v, valV kvs (.inl y) = some v → v = .int (ws (wo s y) (S.length - 1))) ?_ ?_
        · refine s_when (b := !(valV kvs (.inl (ct y rest))).isSome) (et_B (ev_dni (ev_var rfl) (ev_var rfl) d4)) (fun hb H5 e5 => ?_) fun hb H5 e5 => ?_
          · have L5 := L4.ex e5
            have lw := wo_len_le s (ct y rest)
            have e05 := e04.trans e5
            refine s_dput (kvs := kvs) hpd' e05 (e5 _ _ d4) (call_ways (k := S.length - 1) (ev_var rfl) L5 (es_new (call_without (es_at (ev_h4 X L5 (ev_var rfl)) (e05 _ _ hu)) (ev_var rfl) (by omega) ⟨by omega, by omega⟩)) (ev_is (ev_I0 (ev_lenR (er_at (ev_h5 X L5 (ev_var rfl)) (sq_of L5.he))) ev_c) (congrArg V.int (by rw [ints_len]; omega))) (by omega) (by omega) fun q => ?_) (ev_var rfl) (ev_var rfl) (by omega) fun H6 e6 d6 b6 => ?_
            · rw [(sm.take ym).eq]
              exact rk_big' rl (by have := List.length_erase_of_mem ym; omega) q
            · refine ⟨rfl, e6, b6 _ _ nfd (e5 _ _ f4), ?_, _, d6, ?_, ?_, ?_⟩
              · exact (tp4.mono fun T x y h => e5 _ _ h).bt (e5 _ _ d4) (fun _ h => nomatch h) b6
              · have := putK_le kvs (.inl (ct y rest)) (.int (ws (wo s (ct y rest)) (S.length - 1)))
                omega
              · rw [valV_put, if_pos rfl]
              · intro y' v h
                rw [valV_put] at h
                by_cases c : (Sum.inl y' : Key) = Sum.inl (ct y rest)
                · rw [if_pos c] at h
                  injection c with c
                  rw [c]
                  exact (Option.some.inj h).symm
                · rw [if_neg c] at h
                  exact hv _ _ h
          · refine ⟨rfl, e04.trans e5, e5 _ _ f4, tp4.mono fun T x y h => e5 _ _ h, kvs, e5 _ _ d4, by omega, ?_, hv⟩
            cases c : valV kvs (.inl (ct y rest)) with
            | none => rw [c] at hb; exact nomatch hb
            | some v => rw [hv _ _ c]
        · rintro σ' H5 ⟨rfl, e5, f5, tp5, kvs', d5, hk5, hg5, hv5⟩
          refine s_appU (ys := [.int y, .int (ws (wo s (ct y rest)) (S.length - 1))]) f5 (ev_var rfl) (eu_tup (ea_cons (ev_var rfl) (ea_cons (ev_dget (ev_var rfl) (ev_var rfl) d5 hg5) ea_nil)) (by show 2 ≤ 100000; decide)) (by omega) fun T H6 hT e6 t6 => ?_
          refine ⟨⟨_, _, rfl⟩, Ex.mut (e5.trans e6) hpf, ⟨_, upd_same, ?_⟩, kvs', ?_, hk5, hv5⟩
          · have nT : T ≠ pf := (ne_of_none f5 hT).symm
            have tt : chsT S t rest (S.take (j + 1)) = chsT S t rest (S.take j) ++ [(y, ws (wo s (ct y rest)) (S.length - 1))] := by
              unfold chsT
              rw [tk, List.filter_append, List.map_append, W y ym, List.filter_cons_of_pos (by simpa using ne)]
              rfl
            rw [tt]
            have b : Bt pf H6 (upd H6 pf (.lst (us ++ [.ref T]))) := bt_ex (Ex.refl _)
            exact Tp.snoc (b _ _ nT t6) ((tp5.mono fun T x y h => e6 _ _ h).bt (e6 _ _ f5) (fun _ h => nomatch h) b)
          · rw [upd_ne nfd.symm]
            exact e6 _ _ d5
      · have ne : y = t := by simpa using hb
        refine ⟨⟨_, _, rfl⟩, eH.trans e3, ⟨us, e3 _ _ hf, ?_⟩, kvs, e3 _ _ hd, by omega, hv⟩
        have tt : chsT S t rest (S.take (j + 1)) = chsT S t rest (S.take j) := by
          unfold chsT
          rw [tk, List.filter_append, List.map_append, List.filter_cons_of_neg (by simpa using ne)]
          exact List.append_nil _
        rw [tt]
        exact tp.mono fun T x y h => e3 _ _ h
    · rintro σ' H' ⟨⟨v4, v5, rfl⟩, eH, ⟨us, hf, tp⟩, kvs, hd, hk, hv⟩
      rw [ints_len, List.take_length] at tp
      exact s_ret (ev_var rfl) fun H3 e3 => k pf us H3 hpf (eH.trans e3) (e3 _ _ hf) (tp.mono fun T x y h => e3 _ _ h)
end


section
variable {P : Program} {w : World} {K : PySem.W.Frag} {mg : Str → Option Value} {base : Heap}
/-! ### _law_counts -/
theorem sc_law_counts : FnScope ["_law_shuns_here", "_law_size", "_law_picks", "_law_seat", "_law_many", "_law_orders", "_law_k", "_law_left", "_law_found", "_law_rest", "_law_low", "_law_part", "_law_one", "_law_other"] ["_law_shuns_here"] (defScope (topS 30)) :=
  ⟨rfl, rfl, rfl, by decide +kernel, rfl, by decide +kernel, by decide +kernel⟩

def spLawCounts : Sp := spCounts
theorem zip_zp (s : List Int) (m : Int) : (((s ++ [0]).zip (0 :: s)).filter fun _ => true).map (fun p : Int × Int => V.int (p.1 + m * p.2)) = (zp s m).map V.int := by
  rw [filter_yes]
  unfold zp
  rw [List.map_map]
  rfl
theorem alt_drop {l : List Int} {j : Nat} {x : Int} (hx : l.reverse[j]? = some x) : alt (l.drop (l.length - (j + 1))) = (x - (alt (l.drop (l.length - j))).headD 0) :: alt (l.drop (l.length - j)) := by
  have hj : j < l.reverse.length := (List.getElem?_eq_some_iff.mp hx).1
  rw [List.length_reverse] at hj
  rw [List.getElem?_reverse hj] at hx
  have e : l.length - (j + 1) = l.length - 1 - j := by omega
  have e2 : l.length - 1 - j + 1 = l.length - j := by omega
  obtain ⟨h1, h2⟩ := List.getElem?_eq_some_iff.mp hx
  rw [e, List.drop_eq_getElem_cons h1, h2, e2]
  rfl
theorem ok_law_counts {f : Addr} {fd : FuncData} (F : Fun K "_law_counts" "_law_counts" (topS 30) f fd) (B : Bi mg) : FnOk P w K mg base CX0 1 f fd ["_law_shuns_here"] spLawCounts := by
  refine F.ok sc_law_counts (fun vs H Q E h => ?_) (fun cdv A outer s H vs Q E hr h => ?_)
  · obtain ⟨a, g, rfl, _⟩ := h
    rfl
  · obtain ⟨a, g, rfl, ha, ok, q⟩ := h
    obtain ⟨hg, hz⟩ := id ok
    refine ⟨_, (pss_cons (ps_asg (pe_tup (pa_cons (pe_callB (kLen K) (by rfl) B.len PySem.boot_len (pa_cons (pv 0) pa_nil)) (pa_cons (pe_lst (pa_cons pe_int pa_nil)) pa_nil))) (kgTup (n := 2) K (pgs_cons (pg_name (i := 1) sc_law_counts.nd rfl (Or.inr rfl)) (pgs_cons (pg_name (i := 2) sc_law_counts.nd rfl (Or.inr rfl)) pgs_nil))))
 (pss_cons (ps_for PassesOwn.never rfl (pi_range1 (by rfl) B.range (pa_cons (pv 1) pa_nil)) (pg_name (i := 3) sc_law_counts.nd rfl (Or.inl rfl))
 (pss_cons (ps_set (i := 4) sc_law_counts.nd rfl (Or.inr rfl) (kBm K PySem.F.plainAttrs_list PySem.F.slot_list_count PySem.F.type_list_count (kCnt K) (pv 0) (pa_cons (pv 3) pa_nil)))
 (pss_one (ps_set (i := 2) sc_law_counts.nd rfl (Or.inr rfl) (pe_lc (own := [("_law_one", 12), ("_law_other", 13)]) (by rfl) sc_law_counts.nd (kpZip K (by rfl) B.zip (pa_cons (pe_op op_cat (pv 2) (pe_lst (pa_cons pe_int pa_nil))) (pa_cons (pe_op op_cat (pe_lst (pa_cons pe_int pa_nil)) (pv 2)) pa_nil))) (blkOk_by (own := [("_law_one", 12), ("_law_other", 13)]) (N := ["_law_shuns_here", "_law_size", "_law_picks", "_law_seat", "_law_many", "_law_orders", "_law_k", "_law_left", "_law_found", "_law_rest", "_law_low", "_law_part", "_law_one", "_law_other"]) (sc := defScope (topS 30)) (by decide +kernel)) (fun _ _ _ _ _ => (kgTup (n := 2) K (pgs_cons (pg_name (i := 12) sc_law_counts.nd rfl (Or.inl rfl)) (pgs_cons (pg_name (i := 13) sc_law_counts.nd rfl (Or.inl rfl)) pgs_nil)))) (fun _ _ _ _ _ => pts_nil) (fun _ _ _ _ _ => (pe_op op_add (pv 12) (pe_op op_mul (pv 4) (pv 13)))))))))
 (pss_cons (ps_set (i := 5) sc_law_counts.nd rfl (Or.inr rfl) (pe_lst (pa_cons pe_int pa_nil)))
 (pss_cons (ps_for PassesOwn.never rfl (pi_range1 (by rfl) B.range (pa_cons (pv 1) pa_nil)) (pg_name (i := 6) sc_law_counts.nd rfl (Or.inl rfl))
 (pss_one (ps_expr (kBm K PySem.F.plainAttrs_list PySem.F.slot_list_append PySem.F.type_list_append mt_append (pv 5) (pa_cons (pe_op op_mul (pe_ix (kIx K) (pv 5) (pe_un un_neg pe_int) (fun _ _ => rfl)) (pe_op op_add (pv 6) pe_int)) pa_nil)))))
 (pss_cons (ps_setLc (i := 7) (own := [("_law_k", 6)]) (by rfl) sc_law_counts.nd rfl rfl (sw_true rfl rfl rfl (by decide +kernel)) (pi_range1 (by rfl) B.range (pa_cons (pe_op op_add (pv 1) pe_int) pa_nil)) (blkOk_by (own := [("_law_k", 6)]) (N := ["_law_shuns_here", "_law_size", "_law_picks", "_law_seat", "_law_many", "_law_orders", "_law_k", "_law_left", "_law_found", "_law_rest", "_law_low", "_law_part", "_law_one", "_law_other"]) (sc := defScope (topS 30)) (by decide +kernel)) (fun _ _ _ _ _ => (pg_name (i := 6) sc_law_counts.nd rfl (Or.inl rfl))) (fun _ _ _ _ _ => pts_nil) (fun _ _ _ _ _ => (pe_op op_mulW (pe_ix (kIx K) (pv 2) (pv 6) (fun _ _ => rfl)) (pe_ix (kIx K) (pv 5) (pe_op op_sub (pv 1) (pv 6)) (fun _ _ => rfl)))))
 (pss_cons (ps_set (i := 8) sc_law_counts.nd rfl (Or.inl rfl) (pe_lst pa_nil))
 (pss_cons (ps_while PassesOwn.never (pt_cmpR (kNe K hr.units) (pv 7) (pe_lst pa_nil) (nomark _))
 (pss_cons (ps_par (i := 9) (j := 10) (by rfl) sc_law_counts.nd rfl rfl (by decide) rfl rfl (pa_cons (pe_lst pa_nil) (pa_cons pe_int pa_nil)) (by rfl))
 (pss_cons (ps_for PassesOwn.never rfl (kpList K (kRev K (pv 7))) (pg_name (i := 11) sc_law_counts.nd rfl (Or.inl rfl))
 (pss_cons (ps_set (i := 10) sc_law_counts.nd rfl (Or.inl rfl) (pe_op op_sub (pv 11) (pv 10)))
 (pss_one (ps_expr (kBm K PySem.F.plainAttrs_list PySem.F.slot_list_append PySem.F.type_list_append mt_append (pv 9) (pa_cons (pv 10) pa_nil))))))
 (pss_cons (ps_expr (kBm K PySem.F.plainAttrs_list PySem.F.slot_list_append PySem.F.type_list_append mt_append (pv 8) (pa_cons (kBm0 K PySem.F.plainAttrs_list PySem.F.slot_list_pop PySem.F.type_list_pop mt_pop (pv 9)) pa_nil)))
 (pss_one (ps_set (i := 7) sc_law_counts.nd rfl (Or.inl rfl) (kRev K (pv 9))))))))
 (pss_one (ps_ret (pv 8)))))))))), ?_⟩
    refine q_tup2 (eb_v (ev_is (ev_lenR (er_var rfl (sq_of ha))) (by rw [ints_len])) (eb_n (xs := [V.int 1]) (by walk_at "ev"; decide) eb_nil)) ?_ ?_
    · rintro vs H1 ⟨r, rfl, p, r', rfl, _, _, rfl⟩
      rfl
    rintro x y H1 H2 e1 ⟨r, ex, p, r', ex', hp, hq, ex''⟩ e2
    subst ex''
    cases ex'
    cases ex
    have e02 := e1.trans e2
    have lm := marks_len g.length g
    refine q_forR1 (n := (g.length : Int)) (by walk_at "ev") ⟨by omega, by omega⟩ (fun i σ' H' => (∃ p v3 v4, σ' = [some (.ref a), some (.int (g.length : Int)), some (.ref p), v3, v4, none, none, none, none, none, none, none, none, none] ∧ H p = none ∧
        H' p = some (.lst ((((marks g.length g).take i).foldl zp [1]).map V.int))) ∧ Ex H H') (fun H3 e3 => ⟨⟨p, _, _, rfl, hp, e3 _ _ (e2 _ _ hq)⟩, e02.trans e3⟩) ?_ ?_
    · rintro i σ' H' hi ⟨⟨p, v3, v4, rfl, hp, hl⟩, eH⟩
      have hi' : i < g.length := by omega
      have hm := marks_get g hi'
      have sl : (((marks g.length g).take i).foldl zp [1]).length ≤ 64 := by rw [zm_len, List.length_take, lm]; simp; omega
      generalize hS : ((marks g.length g).take i).foldl zp [1] = S at hl sl
      refine q_asg (v := .int (ct (i : Int) g)) (ev_cnt (er_var rfl (sq_of (eH _ _ ha))) (ev_var rfl)) fun H3 e3 => ?_
      have hc := ct_le (i : Int) g
      have hc0 := ct_nn (i : Int) g
      refine s_asgL (el_is (el_lcZ (ns := S ++ [0]) (ms := 0 :: S) (fun _ => true) (fun p => V.int (p.1 + ct (i : Int) g * p.2)) (er_of (es_new (el_is (el_cat (xs := S.map V.int) (ys := [V.int 0]) (es_var rfl (e3 _ _ hl)) (by walk_at "ev"; decide) (by rw [ints_len]; show S.length + 1 ≤ 100000; omega)) (ints_snoc S 0))))
        (er_of (es_new (el_is (el_cat (xs := [V.int 0]) (ys := S.map V.int) (by walk_at "ev"; decide) (es_var rfl (e3 _ _ hl)) (by rw [ints_len]; show 1 + S.length ≤ 100000; omega)) (ys := (0 :: S).map V.int) rfl))) (by rw [List.length_append]; show S.length + 1 ≤ 40000; omega) (fun _ _ => rfl) (fun _ _ _ _ _ => et_yes) fun n m H4 _ _ e4 => ?_) (zip_zp S _)) fun p' H4 hp' e4 h4 => ⟨⟨p', _, _, rfl, fresh_back (eH.trans e3) hp', ?_⟩, (eH.trans e3).trans e4⟩
      · exact ev_I0 (ev_var rfl) (ev_I (ev_var rfl) (ev_var rfl) (Or.inl ⟨by omega, by omega⟩))
      · rw [h4, List.take_add_one, hm]
        show _ = some (HO.lst ((((marks g.length g).take i ++ [ct (i : Int) g]).foldl zp [1]).map V.int))
        rw [List.foldl_append, hS]
        rfl
    · rintro σ' H3 ⟨⟨p, v3, v4, rfl, hp, hl⟩, e3⟩
      have et : ((g.length : Int)).toNat = (marks g.length g).length := by omega
      rw [et, List.take_length] at hl
      have hl : H3 p = some (.lst ((zm (marks g.length g)).map V.int)) := hl
      refine q_asgL (xs := [V.int 1]) (by walk_at "ev"; decide) fun po H4 hpo e4 h4 => ?_
      refine q_forR1 (n := (g.length : Int)) (by walk_at "ev") ⟨by omega, by omega⟩ (fun i σ' H' => (∃ v6, σ' = [some (.ref a), some (.int (g.length : Int)), some (.ref p), v3, v4, some (.ref po), v6, none, none, none, none, none, none, none]) ∧ Ex H3 H' ∧ H' po = some (.lst ((lst fac 0 (i + 1)).map V.int)))
        (fun H5 e5 => ⟨⟨_, rfl⟩, e4.trans e5, e5 _ _ h4⟩) ?_ ?_
      · rintro i σ' H' hi ⟨⟨v6, rfl⟩, eH, hl⟩
        refine s_appO (v := V.int (fac i * ((i : Int) + 1))) hpo eH hl (ev_var rfl) ?_ (by rw [ints_len, lst_len]; omega) fun H5 e5 h5 _ => ⟨⟨_, rfl⟩, e5, ?_⟩
        · exact ev_I (ev_ixR (er_var rfl (sq_of hl)) (ev_U_neg ev_c) (at_last (lst_last fac i))) (ev_I0 (ev_var rfl) ev_c) (Or.inr ⟨by omega, by omega⟩)
        · rw [h5, ints_snoc, lst_succ fac (i + 1)]
          rfl
      · rintro σ' H5 ⟨⟨v6, rfl⟩, e35, h5⟩
        have hl5 := e35 _ _ hl
        have en : ((g.length : Int)).toNat = g.length := by omega
        rw [en] at h5
        have zl : (zm (marks g.length g)).length = g.length + 1 := by
          have := zm_len (marks g.length g) [1]
          unfold zm
          rw [this, lm]
          show 1 + g.length = _
          omega
        have e05 : Ex H H5 := e3.trans e35
        refine q_asgL (xs := (lay (seats g.length) g).map V.int) (el_is (el_lcRg (n := (g.length : Int) + 1) (fun _ => true) (fun k => V.int (rk (seats g.length) g k * fac (g.length - k))) (by walk_at "ev") (by omega) (by omega) (fun _ => rfl) (fun _ _ _ _ => et_yes) fun k H6 hk _ e6 => ?_) ?_) fun pl H6 hpl e6 h6 => ?_
        · have c1 : (zm (marks g.length g))[k]? = some (rk (seats g.length) g k) := by rw [cf_get (by omega), zm_rk]
          have c2 : (lst fac 0 (g.length + 1))[g.length - k]? = some (fac (g.length - k)) := lst_at (by omega)
          exact ev_I (ev_ixR (er_var rfl (sq_of (e6 _ _ hl5))) (ev_var rfl) (at_int rfl c1)) (ev_ixR (er_var rfl (sq_of (e6 _ _ h5))) (ev_I0 (ev_var rfl) (ev_var rfl)) (at_int (by omega) c2)) (wide_mul (rk_big hz (by omega) k) (fac_big (by omega)) (by decide) (by decide) (by decide))
        · have e : ((g.length : Int) + 1).toNat = g.length + 1 := by omega
          rw [filter_yes, e]
          unfold lay
          rw [lst_map0, List.map_map]
          rfl
        have lL : (lay (seats g.length) g).length = g.length + 1 := by unfold lay; rw [lst_len]
        refine q_asgL (xs := []) (by walk_at "ev"; decide) fun pf H7 hpf e7 h7 => ?_
        have hpl' : H pl = none := fresh_back e05 hpl
        have hpf' : H pf = none := fresh_back (e05.trans e6) hpf
        have ne1 : pl ≠ pf := ne_of_none h6 hpf
        generalize hL : lay (seats g.length) g = L at h6 lL
        refine q_while (fun m σ' H' => ∃ i pl v9 v10 v11, m = (trS i L).2.length ∧ i ≤ g.length + 1 ∧ σ' = [some (.ref a), some (.int (g.length : Int)), some (.ref p), v3, v4, some (.ref po), v6, some (.ref pl), some (.ref pf), v9, v10, v11, none, none] ∧ Ex H H' ∧ H pl = none ∧ pl ≠ pf ∧
            H' pl = some (.lst ((trS i L).2.map V.int)) ∧ H' pf = some (.lst ((trS i L).1.map V.int))) L.length ⟨0, pl, none, none, none, rfl, Nat.zero_le _, rfl, (e05.trans e6).trans e7, hpl', ne1, e7 _ _ h6, h7⟩ ?_
        rintro m σ' H' ⟨i, pl, v9, v10, v11, rfl, hi, rfl, eH, hpl, ne1, hl, hf⟩
        obtain ⟨t1, t2⟩ := trS_len (i := i) (l := L) (by omega)
        refine ⟨!decide ((trS i L).2 = []), et_test (ev_neL (er_var rfl (sq_of hl)) (er_of (es_new (el_lst ea_nil (by decide))))), fun hb H8 e8 => ?_, fun hb H8 e8 => ?_⟩
        · have hne : (trS i L).2 ≠ [] := by simpa using hb
          have hl8 := e8 _ _ hl
          have hf8 := e8 _ _ hf
          generalize hR : (trS i L).2 = R at hl8 hne t2
          have rl : 0 < R.length := List.length_pos_iff.mpr hne
          refine ⟨fun σ2 H2 => ∃ pl v9 v10 v11, σ2 = [some (.ref a), some (.int (g.length : Int)), some (.ref p), v3, v4, some (.ref po), v6, some (.ref pl), some (.ref pf), v9, v10, v11, none, none] ∧ Ex H H2 ∧ H pl = none ∧ pl ≠ pf ∧
            H2 pl = some (.lst ((trS (i + 1) L).2.map V.int)) ∧ H2 pf = some (.lst ((trS (i + 1) L).1.map V.int)), ?_, ?_⟩
          · rintro σ2 H2 ⟨pl, v9, v10, v11, rfl, x1, x2, x3, x4, x5⟩
            obtain ⟨t3, t4⟩ := trS_len (i := i + 1) (l := L) (by omega)
            exact ⟨_, by omega, i + 1, pl, v9, v10, v11, rfl, by omega, rfl, x1, x2, x3, x4, x5⟩
          · refine q_par (eb_n (xs := []) (el_lst ea_nil (by decide)) (eb_v ev_c eb_nil)) ?_ ?_
            · rintro vs H1 ⟨p, r, rfl, _, _, r', rfl, rfl⟩
              rfl
            rintro x y H9 e9 ⟨pr, r, ex, hpr, h9, r', ex', ex''⟩
            subst ex''
            cases ex'
            cases ex
            have hpr' : H pr = none := fresh_back (eH.trans e8) hpr
            have nerf : pf ≠ pr := ne_of_none hf8 hpr
            have e09 := (eH.trans e8).trans e9
            refine q_forNLn (xs := R.reverse.map V.int) (el_is (el_rev (er_var rfl (sq_of (e9 _ _ hl8)))) (List.map_reverse).symm) (fun pv j σ' H' => (∃ v11, σ' = [some (.ref a), some (.int (g.length : Int)), some (.ref p), v3, v4, some (.ref po), v6, some (.ref pl), some (.ref pf), some (.ref pr), some (.int ((alt (R.drop (R.length - j))).headD 0)), v11, none, none]) ∧ Ex H H' ∧ pv ≠ pr ∧
                H' pv = some (.lst (R.reverse.map V.int)) ∧ H' pf = some (.lst ((trS i L).1.map V.int)) ∧ H' pr = some (.lst ((alt (R.drop (R.length - j))).reverse.map V.int))) (fun pv H10 hpv e10 h10 => ⟨⟨v11, ?_⟩, e09.trans e10, (ne_of_none (h9) hpv).symm, h10, e10 _ _ (e9 _ _ hf8), ?_⟩) (fun _ _ _ _ _ q => sq_of q.2.2.2.1) ?_ ?_
            · rw [Nat.sub_zero, List.drop_length]
              rfl
            · rw [Nat.sub_zero, List.drop_length]
              exact e10 _ _ h9
            · rintro pv j x σ' H' hx ⟨⟨v11, rfl⟩, eH', nv, hv, hf', hr'⟩
              obtain ⟨z, hz', rfl⟩ := of_ints hx
              have ea := alt_drop hz'
              have hj := (List.getElem?_eq_some_iff.mp hz').1
              rw [List.length_reverse] at hj
              generalize hA : alt (R.drop (R.length - j)) = A1 at hr' ea
              have la : A1.length ≤ R.length := by rw [← hA, alt_len, List.length_drop]; omega
              refine q_asg (v := .int (z - A1.headD 0)) (ev_I0 (ev_var rfl) (ev_var rfl)) fun H11 e11 => ?_
              refine s_appO (v := .int (z - A1.headD 0)) hpr' (eH'.trans e11) (e11 _ _ hr') (ev_var rfl) (ev_var rfl) (by rw [ints_len, List.length_reverse]; omega) fun H12 e12 h12 b12 => ⟨⟨some (.int z), ?_⟩, e12, nv, b12 _ _ nv (e11 _ _ hv), b12 _ _ nerf (e11 _ _ hf'), ?_⟩
              · rw [ea]
                rfl
              · rw [ea, h12, ints_snoc, List.reverse_cons]
            · rintro pv σ' H' ⟨⟨v11, rfl⟩, eH', nv, hv, hf', hr'⟩
              rw [ints_len, List.length_reverse, Nat.sub_self, List.drop_zero] at hr'
              have hal := alt_len R
              cases ea : alt R with
              | nil =>
                rw [ea] at hal
                exact absurd hal (by simp; omega)
              | cons x t =>
                have st := trS_step (i := i) (l := L) (by rw [hR]; exact ea)
                rw [ea, List.reverse_cons, ← ints_snoc] at hr'
                refine q_appPop (l := pf) (r := pr) hpf' hpr' nerf eH' hf' hr' (ev_var rfl) (ev_var rfl) (by rw [ints_len]; omega) fun H13 e13 f13 r13 _ => ?_
                refine s_asgL (xs := t.map V.int) (el_is (el_rev (er_var rfl (sq_of r13))) (by rw [← List.map_reverse, List.reverse_reverse])) fun pn H14 hpn e14 h14 => ?_
                refine ⟨pn, _, _, _, rfl, e13.trans e14, fresh_back e13 hpn, (ne_of_none f13 hpn).symm, ?_, ?_⟩
                · rw [st]
                  exact h14
                · rw [st, e14 _ _ f13, ints_snoc]
        · have hn : (trS i L).2 = [] := by simpa using hb
          rw [hn] at t2
          have ei : i = g.length + 1 := by
            have t2' : (0 : Nat) = L.length - i := t2
            omega
          have fin : (trS i L).1 = cts g := by
            have h1 := trS_trF (i := i) (n := i) (l := L) (Nat.le_refl _) (by omega)
            rw [Nat.sub_self, hn] at h1
            have h2 : trF i L = (trS i L).1 := by rw [h1]; exact List.append_nil _
            rw [← h2, ei, trF_more _ _ (by omega), ← hL, tr_lay (seats_nodup _) (seats_len _)]
            rfl
          rw [fin] at hf
          exact s_ret (ev_var rfl) fun H9 e9 => q pf H9 hpf' ((eH.trans e8).trans e9) (e9 _ _ (e8 _ _ hf))
theorem call_counts {σ : L2.St} {H : Hp} {te : TE} {g : List Int} {E : XK} (h : EvS te σ H (g.map V.int)) (ok : Ok g) : EvL (tCall spCounts [] E (tCons te tNil)) σ H ((cts g).map V.int) :=
  el_callB (eb_s h eb_nil) fun vs H1 e ⟨p, r, e1, hp, e2⟩ Q k => by
    subst e2
    exact ⟨p, g, e1, hp, ok, k⟩
end


section
variable {P : Program} {w : World} {K : PySem.W.Frag} {mg : Str → Option Value} {base : Heap}
/-! ### _law_whole -/
theorem sc_law_whole : FnScope ["_law_number"] ["_law_number"] (defScope (topS 33)) :=
  ⟨rfl, rfl, rfl, by decide +kernel, rfl, by decide +kernel, by decide +kernel⟩

theorem ok_law_whole {f : Addr} {fd : FuncData} (F : Fun K "_law_whole" "_law_whole" (topS 33) f fd) (B : Bi mg) : FnOk P w K mg base CX0 1 f fd ["_law_number"] (spWhole K) := by
  refine F.ok sc_law_whole (fun vs H Q E h => ?_) (fun cdv A outer s H vs Q E hr h => ?_)
  · obtain ⟨x, b1, b2, rfl, _⟩ := h
    rfl
  · obtain ⟨x, b1, b2, rfl, ⟨c, ht, h1, h2⟩, k⟩ := h
    refine ⟨_, (pss_one (ps_ret (pe_and (pe_callB (kIsi K) (by rfl) B.isinstance (by decide +kernel) (pa_cons (pv 0) (pa_cons (pe_bltn (v := .ty "int") (u := .type "int") (by rfl) B.int (by decide +kernel) rfl) pa_nil))) (pe_one (pe_not (pe_callB (kIsi K) (by rfl) B.isinstance (by decide +kernel) (pa_cons (pv 0) (pa_cons (pe_bltn (v := .ty "bool") (u := .type "bool") (by rfl) B.bool (by decide +kernel) rfl) pa_nil)))))))), ?_⟩
    exact s_ret (ev_andV (ev_isi (ev_var rfl) ev_c (.ty "int") (fun H1 e => tyx_ex e ht) h1) fun _ => ev_notV (ev_isi (ev_var rfl) ev_c (.ty "bool") (fun H1 e => tyx_ex e ht) h2)) k
end


section
variable {P : Program} {w : World} {K : PySem.W.Frag} {mg : Str → Option Value} {base : Heap}
theorem Tp.got {H : Hp} : ∀ {vs : List V} {l : List (Int × Int)} {i : Nat} {x : V}, Tp H vs l → vs[i]? = some x → ∃ T q, x = .ref T ∧ l[i]? = some q ∧ H T = some (.tup [.int q.1, .int q.2])
  | _, _, i, x, .nil, h => by simp at h
  | _, _, 0, x, .cons (T := T) h t, e => ⟨T, _, (Option.some.inj e).symm, rfl, h⟩
  | _, _, i + 1, x, .cons h t, e => t.got (i := i) (by simpa using e)
theorem asc_pair : ∀ {l : List Int}, Asc l → l.Pairwise (· ≤ ·)
  | [], _ => .nil
  | x :: l, ⟨h1, h2⟩ => .cons (fun y hy => Int.le_of_lt (h1 y hy)) (asc_pair h2)

def spOffX (K : PySem.W.Frag) : Sp := fun vs H Q _ => ∃ (a : Addr) (g : List Int) (y : V) (o : Option (List V)), vs = [.ref a, y] ∧ H a = some (.lst (g.map V.int)) ∧ g.length ≤ 1000 ∧ Th K H y o ∧ RetV (.bl (offO g o)) H Q
theorem offO_ints (g l : List Int) : offO g (some (l.map V.int)) = offB g l := by
  show offL g (intsOf (l.map V.int)) = _
  rw [intsOf_ints]
  rfl
/-- a new list of pairs -/
def EvP (te : TE) (σ : L2.St) (H : Hp) (l : List (Int × Int)) : Prop := ∀ H1, Ex H H1 → ∀ Q : VK, (∀ q us H2, H1 q = none → Ex H1 H2 → H2 q = some (.lst us) → Tp H2 us l → Q (.ref q) H2) → te σ H1 Q
theorem Hall.bt {C p a o m u e l : Addr} {g rest S : List Int} {H H2 : Hp} (L : Hall C p a o m u e g rest S H) (b : Bt l H H2) (np : p ≠ l) (na : a ≠ l) (no : o ≠ l) (nm : m ≠ l) (nu : u ≠ l) (ne : e ≠ l) : Hall C p a o m u e g rest S H2 :=
  { L with
    hp := L.hp.elim fun dx q => ⟨dx, b _ _ np q⟩
    ha := b _ _ na L.ha
    ho := b _ _ no L.ho
    hm := L.hm.elim fun ms q => ⟨ms, b _ _ nm q.1, q.2⟩
    hu := L.hu.elim fun s q => ⟨s, b _ _ nu q.1, q.2⟩
    he := b _ _ ne L.he }
theorem Fr.pre {p m e : Addr} {H H1 H2 : Hp} (x : Ex H H1) (f : Fr p m e H1 H2) : Fr p m e H H2 := (hid_ex (hid_ex (hid_ex x))).trans f
section
variable {σ : L2.St} {H H0 : Hp} {to ti tl te : TE} {t : TT} {D : Ends} {tz : TS} {C p a o m u e : Addr} {g rest S : List Int} {i : Nat} {x z : Int} {E : XK}
theorem s_turn (x0 : Ex H0 H) (hp : H0 p = none) (hm : H0 m = none) (he : H0 e = none) (h : Ev to σ H (.ref p)) (hi : Ev ti σ H (.int (i : Int))) (L : Hall C p a o m u e g (z :: rest) S H) (hg : g[i]? = some z)
    (k : ∀ u2 H2, Ex H0 H2 → Fr p m e H H2 → (u2 = u ∨ H u2 = none) → Hall C p a o m u2 e g rest S H2 → D.nx σ H2) : tDrop (tMeth C "turn" (spTurn C) [] E to (tCons ti tNil)) D σ H :=
  L.hp.elim fun dx q => h H (Ex.refl H) _ fun H1 e1 => ⟨p, dx, _, rfl, e1 _ _ q, l_turn, hi H1 e1 _ fun H2 e2 => ⟨p, a, o, m, u, e, g, rest, S, i, z, rfl, L.ex (e1.trans e2), hg, fun u2 H3 f n L3 =>
    k u2 H3 (f.ex (x0.trans (e1.trans e2)) hp hm he) (f.pre (e1.trans e2)) (n.imp id fun y => fresh_back (e1.trans e2) y) L3⟩⟩
theorem q_turn (x0 : Ex H0 H) (hp : H0 p = none) (hm : H0 m = none) (he : H0 e = none) (h : Ev to σ H (.ref p)) (hi : Ev ti σ H (.int (i : Int))) (L : Hall C p a o m u e g (z :: rest) S H) (hg : g[i]? = some z)
    (k : ∀ u2 H2, Ex H0 H2 → Fr p m e H H2 → (u2 = u ∨ H u2 = none) → Hall C p a o m u2 e g rest S H2 → tz D σ H2) : tSeq (tDrop (tMeth C "turn" (spTurn C) [] E to (tCons ti tNil))) tz D σ H := s_turn (D := { D with nx := tz D }) x0 hp hm he h hi L hg k
theorem s_take (x0 : Ex H0 H) (hp : H0 p = none) (hm : H0 m = none) (he : H0 e = none) (h : Ev to σ H (.ref p)) (hi : Ev ti σ H (.int x)) (L : Hall C p a o m u e g rest S H) (hg : x ∈ S)
    (k : ∀ u2 H2, Ex H0 H2 → Fr p m e H H2 → (u2 = u ∨ H u2 = none) → Hall C p a o m u2 e g rest (S.erase x) H2 → D.nx σ H2) : tDrop (tMeth C "take" (spTake C) [] E to (tCons ti tNil)) D σ H :=
  L.hp.elim fun dx q => h H (Ex.refl H) _ fun H1 e1 => ⟨p, dx, _, rfl, e1 _ _ q, l_take, hi H1 e1 _ fun H2 e2 => ⟨p, a, o, m, u, e, g, rest, S, x, rfl, L.ex (e1.trans e2), hg, fun u2 H3 f n L3 =>
    k u2 H3 (f.ex (x0.trans (e1.trans e2)) hp hm he) (f.pre (e1.trans e2)) (n.imp id fun y => fresh_back (e1.trans e2) y) L3⟩⟩
theorem ep_choices (h : Ev to σ H (.ref p)) (hi : Ev ti σ H (.int (i : Int))) (L : Hall C p a o m u e g rest S H) (hg : g[i]? = some z) (hl : S.length = rest.length + 1) : EvP (tMeth C "choices" (spChoices C) [] E to (tCons ti tNil)) σ H (chs S z rest) := fun H0 x0 Q k =>
  L.hp.elim fun dx q => h H0 x0 _ fun H1 e1 => ⟨p, dx, _, rfl, e1 _ _ (x0 _ _ q), l_choices, hi H1 (x0.trans e1) _ fun H2 e2 => ⟨p, a, o, m, u, e, g, rest, S, i, z, rfl, L.ex (x0.trans (e1.trans e2)), hg, hl, fun q us H3 hq e3 h3 tp =>
    k q us H3 (fresh_back (e1.trans e2) hq) ((e1.trans e2).trans e3) h3 tp⟩⟩
theorem q_asgP {j : Nat} {l : List (Int × Int)} (h : EvP te σ H l) (k : ∀ q us H2, H q = none → Ex H H2 → H2 q = some (.lst us) → Tp H2 us l → tz D (σ.set j (some (.ref q))) H2) : tSeq (tAsg te (gName j)) tz D σ H := h H (Ex.refl H) _ k
theorem el_lcP {l : List (Int × Int)} {j k : Nat} {vs : List Nat} (c : Int × Int → Bool) (gg : Int × Int → V) (h : EvP tl σ H l) (hz : l.length ≤ 40000) (hw : ∀ x y, wipe (((wipe σ vs).set j (some x)).set k (some y)) vs = wipe σ vs)
    (ht : ∀ n m H1, (n, m) ∈ l → Ex H H1 → EvT t (((wipe σ vs).set j (some (.int n))).set k (some (.int m))) H1 (c (n, m))) (he : ∀ n m H1, (n, m) ∈ l → c (n, m) = true → Ex H H1 → Ev te (((wipe σ vs).set j (some (.int n))).set k (some (.int m))) H1 (gg (n, m))) :
    EvL (tLc (iList K tl) (gTup K 2 (gCons (gName j) (gCons (gName k) gNil))) t te vs) σ H ((l.filter c).map gg) := fun H0 e Q q => h H0 e _ fun a us H1 ha e1 h1 tp => ⟨a, rfl, ⟨_, sq_of h1⟩, fun Dl hD =>
  lc_list (xs := us) (Cl H1 (gv c gg l) Dl) ⟨hD, Ex.new hD, upd_same⟩ (fun i H' _ p => sq_of (p.2.1 _ _ h1)) (fun i x H' hi p => by
    obtain ⟨T, ⟨n, m⟩, rfl, hq, hT⟩ := tp.got hi
    have mem : (n, m) ∈ l := List.mem_of_getElem? hq
    exact ⟨T, _, rfl, st_of (p.2.1 _ _ hT), rfl, _, _, rfl, _, _, rfl, rfl, hw _ _, cl_turn p (Ex.refl _) (by have := gv_len c gg l i; omega) (ht n m H' mem ((e.trans e1).trans p.2.1)) (fun hc => he n m H' mem hc ((e.trans e1).trans p.2.1)) (gv_step hq)⟩)
    (fun H' p => q Dl H' (fresh_back e1 p.1) (e1.trans p.2.1) (by rw [← gv_all, ← tp.len]; exact p.2.2))⟩
end
theorem drop_at {l : List Int} {i : Nat} {x : Int} (h : l[i]? = some x) : l.drop i = x :: l.drop (i + 1) := by
  obtain ⟨h1, h2⟩ := List.getElem?_eq_some_iff.mp h
  rw [List.drop_eq_getElem_cons h1, h2]
theorem at_fst {x y : Int} : atI [V.int x, V.int y] 0 = some (.int x) := atI_nat (j := 0) rfl
theorem at_snd {x y : Int} : atI [V.int x, V.int y] 1 = some (.int y) := atI_nat (j := 1) rfl
/-! ### _law_off -/
theorem sc_law_off : FnScope ["_law_shuns_here", "_law_found", "_law_seat", "_law_other"] ["_law_shuns_here", "_law_found"] (defScope (topS 31)) :=
  ⟨rfl, rfl, rfl, by decide +kernel, rfl, by decide +kernel, by decide +kernel⟩

theorem ok_offX {f f1 : Addr} {fd fd1 : FuncData} (F : Fun K "_law_off" "_law_off" (topS 31) f fd) (B : Bi mg) (D_law_whole : Df P w K mg base CX0 1 "_law_whole" f1 fd1 ["_law_number"] (spWhole K)) : FnOk P w K mg base CX0 2 f fd ["_law_shuns_here", "_law_found"] (spOffX K) := by
  refine F.ok sc_law_off (fun vs H Q E h => ?_) (fun cdv A outer s H vs Q E hr h => ?_)
  · obtain ⟨a, g, y, o, rfl, _⟩ := h
    rfl
  · obtain ⟨a, g, y, o, rfl, ha, hz, th, q⟩ := h
    refine ⟨_, (pss_cons (ps_if (PW.pt (pw_or (pt_not (pt_val (pe_callB (kIsi K) (by rfl) B.isinstance (by decide +kernel) (pa_cons (pv 1) (pa_cons (pe_bltn (v := .ty "list") (u := .type "list") (by rfl) B.list (by decide +kernel) rfl) pa_nil))))) (pw_or1 (pt_not (pt_val (pe_callB (kAll K) (by rfl) B.all (by decide +kernel) (pa_cons (pe_lc (own := [("_law_seat", 2)]) (by rfl) sc_law_off.nd (kpList K (pv 1)) (blkOk_by (own := [("_law_seat", 2)]) (N := ["_law_shuns_here", "_law_found", "_law_seat", "_law_other"]) (sc := defScope (topS 31)) (by decide +kernel)) (fun _ _ _ _ _ => (pg_name (i := 2) sc_law_off.nd rfl (Or.inl rfl))) (fun _ _ _ _ _ => pts_nil) (fun _ _ _ _ _ => (pe_call D_law_whole.ok (hr.mono (by decide)) (by rfl) D_law_whole.g D_law_whole.kp D_law_whole.b .nil pass0 (pa_cons (pv 2) pa_nil)))) pa_nil)))))))
 (pss_one (ps_ret pe_bl))
 pss_nil)
 (pss_cons (ps_if (pt_cmpR (kNe K hr.units) (pe_callB (kSorted K) (by rfl) B.sorted (by decide +kernel) (pa_cons (pv 1) pa_nil)) (pe_listRg rfl (by rfl) B.list (prg_1 (by rfl) B.range (pe_callB (kLen K) (by rfl) B.len PySem.boot_len (pa_cons (pv 0) pa_nil)))) (nomark _))
 (pss_one (ps_ret pe_bl))
 pss_nil)
 (pss_one (ps_ret (pe_not (pe_callB (kAny K) (by rfl) B.any (by decide +kernel) (pa_cons (pe_lc (own := [("_law_seat", 2), ("_law_other", 3)]) (by rfl) sc_law_off.nd (kpZip K (by rfl) B.zip (pa_cons (pv 1) (pa_cons (pv 0) pa_nil))) (blkOk_by (own := [("_law_seat", 2), ("_law_other", 3)]) (N := ["_law_shuns_here", "_law_found", "_law_seat", "_law_other"]) (sc := defScope (topS 31)) (by decide +kernel)) (fun _ _ _ _ _ => (kgTup (n := 2) K (pgs_cons (pg_name (i := 2) sc_law_off.nd rfl (Or.inl rfl)) (pgs_cons (pg_name (i := 3) sc_law_off.nd rfl (Or.inl rfl)) pgs_nil)))) (fun _ _ _ _ _ => pts_nil) (fun _ _ _ _ _ => (pe_cmpR op_eq (pv 2) (pv 3) (nomark _)))) pa_nil))))))), ?_⟩
    have th' := th
    cases th with
    | oth h1 h2 => exact q_when (b := true) (et_is (et_or (a := true) (b := true) (et_is (et_not (et_B (ev_isL (ev_var rfl) th'))) rfl) (fun h => nomatch h)) rfl) (fun _ H1 e1 => s_ret ev_c fun H2 e2 => q H2 (e1.trans e2)) (fun h => nomatch h)
    | @lst b xs hb h2 h3 =>
    have ea := intsOf_all xs
    cases ei : intsOf xs with
    | none =>
      rw [ei] at ea
      have qz : offO g (some xs) = false := by show offL g (intsOf xs) = false; rw [ei]; rfl
      rw [qz] at q
      exact q_when (b := true) (et_is (et_or (a := false) (b := true) (et_is (et_not (et_B (ev_isL (ev_var rfl) th'))) rfl) fun _ => et_is (et_wholeX (er_var rfl (sq_of hb)) h2 h3 (fun _ => rfl) fun n H1 e => ev_var rfl) (by rw [ea]; rfl)) rfl) (fun _ H1 e1 => s_ret ev_c fun H2 e2 => q H2 (e1.trans e2)) (fun h => nomatch h)
    | some l =>
    rw [ei] at ea
    have exs := intsOf_some ei
    subst exs
    rw [ints_len] at h3
    rw [offO_ints] at q
    have hl := h3
    refine q_when (b := false) (et_is (et_or (a := false) (b := false) (et_is (et_not (et_B (ev_isL (ev_var rfl) th'))) rfl) fun _ => et_is (et_wholeX (er_var rfl (sq_of hb)) h2 (by rw [ints_len]; exact h3) (fun _ => rfl) fun n H1 e => ev_var rfl) (by rw [ea]; rfl)) rfl) (fun h => nomatch h) fun _ H1 e1 => ?_
    have pw : ((List.range g.length).map fun i : Nat => (i : Int)).Pairwise (· ≤ ·) := asc_pair (seats_asc _)
    refine q_when (b := !decide (l.Perm (seats g.length))) (et_test (ev_sortNe (ms := seats g.length) (er_var rfl (sq_of (e1 _ _ hb))) (er_of (es_new (el_is (el_rg (n := (g.length : Int)) (ev_is (ev_lenR (er_var rfl (sq_of (e1 _ _ ha)))) (by rw [ints_len])) (by omega) (by omega)) (rg_ints g.length)))) pw)) (fun hc H2 e2 => ?_) fun hc H2 e2 => ?_
    · have c : ¬ l.Perm (seats g.length) := by simpa using hc
      have e : offB g l = false := by unfold offB; rw [decide_eq_false c]; rfl
      rw [e] at q
      exact s_ret ev_c fun H3 e3 => q H3 ((e1.trans e2).trans e3)
    · have c : l.Perm (seats g.length) := by simpa using hc
      refine s_ret (ev_is (ev_notV (ev_anyR (bs := (l.zip g).map fun p => decide (p.1 = p.2)) (er_of (es_new (el_is (el_lcZ (ns := l) (ms := g) (fun _ => true) (fun p => V.bl (decide (p.1 = p.2))) (er_var rfl (sq_of (e2 _ _ (e1 _ _ hb)))) (er_var rfl (sq_of (e2 _ _ (e1 _ _ ha)))) (by omega) (fun _ _ => rfl) (fun _ _ _ _ _ => et_yes) fun n m H3 _ _ e3 => ev_eqI (ev_var rfl) (ev_var rfl)) ?_))))) ?_) fun H3 e3 => q H3 ((e1.trans e2).trans e3)
      · rw [filter_yes, List.map_map]
        rfl
      · unfold offB
        rw [decide_eq_true c, List.any_map]
        rfl

/-! ### is_seating -/
theorem sc_is_seating : FnScope ["shuns", "seating", "guest", "seat"] ["shuns", "seating"] (defScope (topS 18)) :=
  ⟨rfl, rfl, rfl, by decide +kernel, rfl, by decide +kernel, by decide +kernel⟩

theorem ok_is_seatingX {f f1 : Addr} {fd fd1 : FuncData} (F : Fun K "is_seating" "is_seating" (topS 18) f fd) (B : Bi mg) (D_is_whole : Df P w K mg base CX0 1 "is_whole" f1 fd1 ["thing"] (spWhole K)) : FnOk P w K mg base CX0 2 f fd ["shuns", "seating"] (spOffX K) := by
  refine F.ok sc_is_seating (fun vs H Q E h => ?_) (fun cdv A outer s H vs Q E hr h => ?_)
  · obtain ⟨a, g, y, o, rfl, _⟩ := h
    rfl
  · obtain ⟨a, g, y, o, rfl, ha, hz, th, q⟩ := h
    refine ⟨_, (pss_cons (ps_if (PW.pt (pw_or (pt_not (pt_val (pe_callB (kIsi K) (by rfl) B.isinstance (by decide +kernel) (pa_cons (pv 1) (pa_cons (pe_bltn (v := .ty "list") (u := .type "list") (by rfl) B.list (by decide +kernel) rfl) pa_nil))))) (pw_or1 (pt_not (pt_val (pe_callB (kAll K) (by rfl) B.all (by decide +kernel) (pa_cons (pe_lc (own := [("seat", 3)]) (by rfl) sc_is_seating.nd (kpList K (pv 1)) (blkOk_by (own := [("seat", 3)]) (N := ["shuns", "seating", "guest", "seat"]) (sc := defScope (topS 18)) (by decide +kernel)) (fun _ _ _ _ _ => (pg_name (i := 3) sc_is_seating.nd rfl (Or.inl rfl))) (fun _ _ _ _ _ => pts_nil) (fun _ _ _ _ _ => (pe_call D_is_whole.ok (hr.mono (by decide)) (by rfl) D_is_whole.g D_is_whole.kp D_is_whole.b .nil pass0 (pa_cons (pv 3) pa_nil)))) pa_nil)))))))
 (pss_one (ps_ret pe_bl))
 pss_nil)
 (pss_cons (ps_if (pt_cmpR (kNe K hr.units) (pe_callB (kSorted K) (by rfl) B.sorted (by decide +kernel) (pa_cons (pv 1) pa_nil)) (pe_listRg rfl (by rfl) B.list (prg_1 (by rfl) B.range (pe_callB (kLen K) (by rfl) B.len PySem.boot_len (pa_cons (pv 0) pa_nil)))) (nomark _))
 (pss_one (ps_ret pe_bl))
 pss_nil)
 (pss_one (ps_ret (pe_not (pe_callB (kAny K) (by rfl) B.any (by decide +kernel) (pa_cons (pe_lc (own := [("guest", 2)]) (by rfl) sc_is_seating.nd (pi_range1 (by rfl) B.range (pa_cons (pe_callB (kLen K) (by rfl) B.len PySem.boot_len (pa_cons (pv 0) pa_nil)) pa_nil)) (blkOk_by (own := [("guest", 2)]) (N := ["shuns", "seating", "guest", "seat"]) (sc := defScope (topS 18)) (by decide +kernel)) (fun _ _ _ _ _ => (pg_name (i := 2) sc_is_seating.nd rfl (Or.inl rfl))) (fun _ _ _ _ _ => pts_nil) (fun _ _ _ _ _ => (pe_cmpR op_eq (pe_ix (kIx K) (pv 1) (pv 2) (fun _ _ => rfl)) (pe_ix (kIx K) (pv 0) (pv 2) (fun _ _ => rfl)) (nomark _)))) pa_nil))))))), ?_⟩
    have th' := th
    cases th with
    | oth h1 h2 => exact q_when (b := true) (et_is (et_or (a := true) (b := true) (et_is (et_not (et_B (ev_isL (ev_var rfl) th'))) rfl) (fun h => nomatch h)) rfl) (fun _ H1 e1 => s_ret ev_c fun H2 e2 => q H2 (e1.trans e2)) (fun h => nomatch h)
    | @lst b xs hb h2 h3 =>
    have ea := intsOf_all xs
    cases ei : intsOf xs with
    | none =>
      rw [ei] at ea
      have qz : offO g (some xs) = false := by show offL g (intsOf xs) = false; rw [ei]; rfl
      rw [qz] at q
      exact q_when (b := true) (et_is (et_or (a := false) (b := true) (et_is (et_not (et_B (ev_isL (ev_var rfl) th'))) rfl) fun _ => et_is (et_wholeX (er_var rfl (sq_of hb)) h2 h3 (fun _ => rfl) fun n H1 e => ev_var rfl) (by rw [ea]; rfl)) rfl) (fun _ H1 e1 => s_ret ev_c fun H2 e2 => q H2 (e1.trans e2)) (fun h => nomatch h)
    | some l =>
    rw [ei] at ea
    have exs := intsOf_some ei
    subst exs
    rw [ints_len] at h3
    rw [offO_ints] at q
    have hl := h3
    refine q_when (b := false) (et_is (et_or (a := false) (b := false) (et_is (et_not (et_B (ev_isL (ev_var rfl) th'))) rfl) fun _ => et_is (et_wholeX (er_var rfl (sq_of hb)) h2 (by rw [ints_len]; exact h3) (fun _ => rfl) fun n H1 e => ev_var rfl) (by rw [ea]; rfl)) rfl) (fun h => nomatch h) fun _ H1 e1 => ?_
    have pw : ((List.range g.length).map fun i : Nat => (i : Int)).Pairwise (· ≤ ·) := asc_pair (seats_asc _)
    refine q_when (b := !decide (l.Perm (seats g.length))) (et_test (ev_sortNe (ms := seats g.length) (er_var rfl (sq_of (e1 _ _ hb))) (er_of (es_new (el_is (el_rg (n := (g.length : Int)) (ev_is (ev_lenR (er_var rfl (sq_of (e1 _ _ ha)))) (by rw [ints_len])) (by omega) (by omega)) (rg_ints g.length)))) pw)) (fun hc H2 e2 => ?_) fun hc H2 e2 => ?_
    · have c : ¬ l.Perm (seats g.length) := by simpa using hc
      have e : offB g l = false := by unfold offB; rw [decide_eq_false c]; rfl
      rw [e] at q
      exact s_ret ev_c fun H3 e3 => q H3 ((e1.trans e2).trans e3)
    · have c : l.Perm (seats g.length) := by simpa using hc
      have ll : l.length = g.length := by rw [c.length_eq, seats_len]
      have ha2 := e2 _ _ (e1 _ _ ha)
      have hb2 := e2 _ _ (e1 _ _ hb)
      refine s_ret (ev_is (ev_notV (ev_anyR (bs := (List.range g.length).map fun i => decide (cf l i = cf g i)) (er_of (es_new (el_is (el_lcRg (n := (g.length : Int)) (fun _ => true) (fun i => V.bl (decide (cf l i = cf g i))) (ea_cons (ev_is (ev_lenR (er_var rfl (sq_of ha2))) (by rw [ints_len])) ea_nil) (by omega) (by omega) (fun _ => rfl) (fun _ _ _ _ => et_yes) fun i H3 hi _ e3 =>
        ev_eqI (ev_ixR (er_var rfl (sq_of (e3 _ _ hb2))) (ev_var rfl) (at_int rfl (cf_get (by omega)))) (ev_ixR (er_var rfl (sq_of (e3 _ _ ha2))) (ev_var rfl) (at_int rfl (cf_get (by omega))))) ?_))))) ?_) fun H3 e3 => q H3 ((e1.trans e2).trans e3)
      · have en : ((g.length : Int)).toNat = g.length := by omega
        rw [filter_yes, List.map_map, en]
        rfl
      · unfold offB
        rw [decide_eq_true c, any_zip ll, List.any_map]
        rfl
/-! ### seating_of -/
theorem sc_seating_of : FnScope ["shuns", "number", "hall", "found", "guest", "place", "choices"] ["shuns", "number"] (defScope (topS 17)) :=
  ⟨rfl, rfl, rfl, by decide +kernel, rfl, by decide +kernel, by decide +kernel⟩

def inR (W : Int) : V → Bool
  | .int n => decide (0 ≤ n) && decide (n < W)
  | _ => false
theorem inR_or (W : Int) : ∀ y : V, (!wholeV y || !inR W y) = !inR W y := by
  intro y
  cases y <;> rfl
def spSeatX (K : PySem.W.Frag) (CS CN : Addr) : Sp := fun vs H Q E => ∃ (x y : V) (o : Option (List V)), vs = [x, y] ∧ Th K H x o ∧ Itm K H y ∧ (badT o = true → RetX CS H E) ∧ (badT o = false → ∃ g, Ok g ∧ o = some (g.map V.int) ∧ (inR (cnt (seats g.length) g) y = false → RetX CN H E) ∧
  ∀ n, y = .int n → 0 ≤ n → n < cnt (seats g.length) g → RetL ((seatF (seats g.length) g n).map V.int) H Q)
theorem ok_seatX {f f1 f2 f3 f4 f5 f6 f7 C CS CN : Addr} {fd fd1 fd2 fd3 fd4 fd5 fd6 fd7 : FuncData} (F : Fun K "seating_of" "seating_of" (topS 17) f fd) (B : Bi mg) (XN : XCls K mg "BadNumber" CN) (D_check_shuns : Df P w K mg base (L2.CX P w) 2 "check_shuns" f1 fd1 ["shuns"] (spCheckX K CS))
    (D_is_whole : Df P w K mg base CX0 1 "is_whole" f2 fd2 ["thing"] (spWhole K)) (D_Hall : Dk P w K mg base CX0 3 "Hall" C f3 fd3 ["self", "shuns"] (spInitH C)) (D_whole : Dm P w K mg base CX0 2 "whole" C f4 fd4 ["self"] (spWholeH C))
    (D_turn : Dm P w K mg base CX0 2 "turn" C f5 fd5 ["self", "guest"] (spTurn C)) (D_choices : Dm P w K mg base CX0 2 "choices" C f6 fd6 ["self", "guest"] (spChoices C)) (D_take : Dm P w K mg base CX0 2 "take" C f7 fd7 ["self", "seat"] (spTake C)) :
    FnOk P w K mg base (L2.CX P w) 5 f fd ["shuns", "number"] (spSeatX K CS CN) := by
  refine F.okX sc_seating_of (fun vs H Q E h => ?_) (fun cdv A outer s H vs Q E hr h => ?_)
  · obtain ⟨x, y, o, rfl, _⟩ := h
    rfl
  · obtain ⟨x, y, o, rfl, th, ity, kb, kg⟩ := h
    refine ⟨_, (pss_cons (ps_expr (pe_call D_check_shuns.ok (hr.mono (by decide)) (by rfl) D_check_shuns.g D_check_shuns.kp D_check_shuns.b .nil (passes_call (takes_of rfl rfl rfl rfl) (fun _ _ _ _ h => h)) (pa_cons (pv 0) pa_nil)))
 (pss_cons (ps_set (i := 2) sc_seating_of.nd rfl (Or.inl rfl) (pe_make D_Hall.m D_Hall.ok (hr.mono (by decide)) (by rfl) D_Hall.g D_Hall.b .nil pass0 (pa_cons (pv 0) pa_nil)))
 (pss_cons (ps_if (PW.pt (pw_or (pt_not (pt_val (pe_call D_is_whole.ok (hr.mono (by decide)) (by rfl) D_is_whole.g D_is_whole.kp D_is_whole.b .nil pass0 (pa_cons (pv 1) pa_nil)))) (pw_or1 (pt_not (pt_chain op_le op_lt pe_int (pv 1) (pe_meth0 (pv 2) D_whole.cl D_whole.m D_whole.ok (hr.mono (by decide)) D_whole.b .nil pass0))))))
 (pss_one (ps_raise rfl (takes_of rfl rfl rfl rfl) (pmk_own PySem.F.excBase_ValueError XN.ex XN.g XN.k (raises_own XN.b XN.t) rfl)))
 pss_nil)
 (pss_cons (ps_set (i := 3) sc_seating_of.nd rfl (Or.inl rfl) (pe_lst pa_nil))
 (pss_cons (ps_for (passes_of rfl) rfl (pi_range1 (by rfl) B.range (pa_cons (pe_callB (kLen K) (by rfl) B.len PySem.boot_len (pa_cons (pv 0) pa_nil)) pa_nil)) (pg_name (i := 4) sc_seating_of.nd rfl (Or.inl rfl))
 (pss_cons (ps_expr (pe_meth (pv 2) D_turn.cl D_turn.m D_turn.ok (hr.mono (by decide)) D_turn.b .nil pass0 (pa_cons (pv 4) pa_nil)))
 (pss_cons (ps_set (i := 5) sc_seating_of.nd rfl (Or.inl rfl) pe_int)
 (pss_cons (ps_set (i := 6) sc_seating_of.nd rfl (Or.inl rfl) (pe_meth (pv 2) D_choices.cl D_choices.m D_choices.ok (hr.mono (by decide)) D_choices.b .nil pass0 (pa_cons (pv 4) pa_nil)))
 (pss_cons (ps_while (passes_of rfl) (pt_cmpR op_ge (pv 1) (pe_ix (kIxT K) (pe_ix (kIx K) (pv 6) (pv 5) (fun _ _ => rfl)) pe_int (fun _ _ => rfl)) (nomark _))
 (pss_cons (ps_aug (i := 1) sc_seating_of.nd rfl (Or.inl rfl) (pe_ix (kIxT K) (pe_ix (kIx K) (pv 6) (pv 5) (fun _ _ => rfl)) pe_int (fun _ _ => rfl)) ip_sub)
 (pss_one (ps_aug (i := 5) sc_seating_of.nd rfl (Or.inl rfl) pe_int ip_add))))
 (pss_cons (ps_expr (kBm K PySem.F.plainAttrs_list PySem.F.slot_list_append PySem.F.type_list_append mt_append (pv 3) (pa_cons (pe_ix (kIxT K) (pe_ix (kIx K) (pv 6) (pv 5) (fun _ _ => rfl)) pe_int (fun _ _ => rfl)) pa_nil)))
 (pss_one (ps_expr (pe_meth (pv 2) D_take.cl D_take.m D_take.ok (hr.mono (by decide)) D_take.b .nil pass0 (pa_cons (pe_ix (kIxT K) (pe_ix (kIx K) (pv 6) (pv 5) (fun _ _ => rfl)) pe_int (fun _ _ => rfl)) pa_nil))))))))))
 (pss_one (ps_ret (pv 3)))))))), ?_⟩
    refine call_checkX (ev_var rfl) th kb fun hb H1 e1 => ?_
    obtain ⟨g, ok, rfl, kn, k⟩ := kg hb
    obtain ⟨hg, hz⟩ := id ok
    obtain ⟨a, rfl, ha⟩ := th_at th
    refine q_asgX (make_hall (es_var rfl (e1 _ _ ha)) ok) fun p H2 hp e2 ⟨a0, o, m, u, e, hm, he, L⟩ => ?_
    have e02 := e1.trans e2
    have hp' : H p = none := fresh_back e1 hp
    have hm' : H m = none := fresh_back e1 hm
    have he' : H e = none := fresh_back e1 he
    refine q_when (b := !inR (cnt (seats g.length) g) y) (et_is (et_or (a := !wholeV y) (b := !inR (cnt (seats g.length) g) y) (et_not (et_B (ev_wholeI (ev_var rfl) (ity.ex e02)))) fun hw => ?_) (inR_or _ y)) (fun hi H3 e3 => ?_) fun hi H3 e3 => ?_
    · obtain ⟨n, rfl⟩ := whole_int (x := y) (by simpa using hw)
      exact et_not (et_B (ev_chain ev_c (ev_var rfl) (call_wholeH (ev_var rfl) L (seats_len _))))
    · exact kn (by simpa using hi) H3 (e02.trans e3)
    have hin : inR (cnt (seats g.length) g) y = true := by simpa using hi
    obtain ⟨n, rfl⟩ : ∃ n, y = .int n := by
      cases y <;> first | exact ⟨_, rfl⟩ | exact absurd hin Bool.false_ne_true
    have hin : (decide (0 ≤ n) && decide (n < cnt (seats g.length) g)) = true := hin
    rw [Bool.and_eq_true] at hin
    have n0 := of_decide_eq_true hin.1
    have n1 := of_decide_eq_true hin.2
    have k := k n rfl n0 n1
    have L3 := L.ex e3
    refine q_asgL (xs := []) (el_lst ea_nil (by decide)) fun pf H4 hpf e4 h4 => ?_
    have L4 := L3.ex e4
    have e04 := (e02.trans e3).trans e4
    have hpf' : H pf = none := fresh_back (e02.trans e3) hpf
    obtain ⟨dx, hP⟩ := L3.hp
    have np : p ≠ pf := ne_of_none hP hpf
    have na : a0 ≠ pf := ne_of_none L3.ha hpf
    have no : o ≠ pf := ne_of_none L3.ho hpf
    have nm : m ≠ pf := L3.hm.elim fun _ q => ne_of_none q.1 hpf
    have nu : u ≠ pf := L3.hu.elim fun _ q => ne_of_none q.1 hpf
    have ne : e ≠ pf := ne_of_none L3.he hpf
    refine q_forR1 (n := (g.length : Int)) (ea_cons (ev_is (ev_lenR (er_var rfl (sq_of (e04 _ _ ha)))) (by rw [ints_len])) ea_nil) ⟨by omega, by omega⟩
      (fun i σ' H' => ∃ u S nn v4 v5 v6 done, σ' = [some (.ref a), some (.int nn), some (.ref p), some (.ref pf), v4, v5, v6] ∧ Ex H H' ∧ Hall C p a0 o m u e g (g.drop i) S H' ∧ S.length = (g.drop i).length ∧ 0 ≤ nn ∧ nn < cnt S (g.drop i) ∧ u ≠ pf ∧
        H' pf = some (.lst (done.map V.int)) ∧ done.length = i ∧ done ++ seatF S (g.drop i) nn = seatF (seats g.length) g n)
      (fun H5 e5 => ⟨u, seats g.length, n, _, _, _, [], rfl, e04.trans e5, L4.ex e5, seats_len _, n0, n1, nu, e5 _ _ h4, rfl, rfl⟩) ?_ ?_
    · rintro i σ' H5 hi ⟨u, S, nn, v4, v5, v6, done, rfl, e5, L5, hl5, nn0, nn1, nu, hf5, dl, df⟩
      have hi' : i < g.length := by omega
      have hgi : g[i]? = some (cf g i) := cf_get hi'
      have dr := drop_at hgi
      generalize cf g i = t at hgi dr
      rw [dr] at L5 hl5 nn1 df
      have hl5' : S.length = (g.drop (i + 1)).length + 1 := hl5
      refine q_turn e5 hp' hm' he' (ev_var rfl) (ev_var rfl) L5 hgi fun u2 H6 e6 f6 n6 L6 => ?_
      have nu2 : u2 ≠ pf := by
        rcases n6 with rfl | n6
        · exact nu
        · exact (ne_of_none hf5 n6).symm
      have hf6 := f6.at hf5 np.symm nm.symm ne.symm
      refine q_asg (v := .int ((0 : Nat) : Int)) ev_c fun H7 e7 => ?_
      refine q_asgP (ep_choices (ev_var rfl) (ev_var rfl) (L6.ex e7) hgi hl5') fun q us H8 hq e8 h8 tp => ?_
      have L8 := (L6.ex e7).ex e8
      have e68 := e7.trans e8
      have hf8 := e68 _ _ hf6
      have nq : q ≠ pf := (ne_of_none (e7 _ _ hf6) hq).symm
      obtain ⟨qq, k1, k2, k3, k4, k5⟩ := pk_ok (l := chs S t (g.drop (i + 1))) (n := nn) (by rw [chs_tot]; exact nn1) nn0 chs_nn
      generalize hL : chs S t (g.drop (i + 1)) = l at tp k1 k2 k3 k4 k5
      have item : ∀ {σ : L2.St} {H' : Hp} {te : TE} {j : Nat} {q' : Int × Int}, σ[6]? = some (some (V.ref q)) → Ev te σ H' (.int (j : Int)) → Ex H8 H' → l[j]? = some q' → ∃ T, Ev (tOp (rIxL K) (tVar 6) te) σ H' (.ref T) ∧ H' T = some (.tup [.int q'.1, .int q'.2]) := fun hs h x hq => by
        obtain ⟨T, hT, h2⟩ := tp.get hq
        exact ⟨T, ev_ixR (er_var hs (sq_of (x _ _ h8))) h (atI_nat hT), x _ _ h2⟩
      refine q_while (fun mm σ' H' => ∃ pl : Nat, mm = pk l nn - pl ∧ pl ≤ pk l nn ∧ σ' = [some (.ref a), some (.int (nn - low' l pl)), some (.ref p), some (.ref pf), some (.int (i : Int)), some (.int (pl : Int)), some (.ref q)] ∧ Ex H8 H') (pk l nn) ⟨0, rfl, Nat.zero_le _, by
        have z : nn - low' l 0 = nn := by show nn - 0 = nn; omega
        rw [z]
        rfl, Ex.refl _⟩ ?_
      rintro mm σ' H9 ⟨pl, rfl, hpl, rfl, e9⟩
      obtain ⟨q', hq', hc⟩ : ∃ q', l[pl]? = some q' ∧ (pl < pk l nn → q'.2 ≤ nn - low' l pl ∧ low' l (pl + 1) = low' l pl + q'.2) ∧ (pl = pk l nn → nn - low' l pl < q'.2) := by
        by_cases c : pl < pk l nn
        · obtain ⟨q', a1, a2, a3⟩ := k5 pl c
          exact ⟨q', a1, fun _ => ⟨a2, a3⟩, fun z => absurd z (by omega)⟩
        · have z : pl = pk l nn := by omega
          subst z
          exact ⟨qq, k1, fun z => absurd z (by omega), fun _ => k4⟩
      obtain ⟨T, hT1, hT2⟩ := item (σ := [some (.ref a), some (.int (nn - low' l pl)), some (.ref p), some (.ref pf), some (.int (i : Int)), some (.int (pl : Int)), some (.ref q)]) (te := tVar 5) rfl (ev_var rfl) e9 hq'
      refine ⟨decide (q'.2 ≤ nn - low' l pl), et_test (ev_I0 (ev_var rfl) (ev_ixTr hT1 hT2 ev_c at_snd)), fun hb HA eA => ?_, fun hb HA eA => ?_⟩
      · have c : pl < pk l nn := by
          have := of_decide_eq_true hb
          rcases Nat.lt_or_ge pl (pk l nn) with z | z
          · exact z
          · have := hc.2 (by omega)
            omega
        obtain ⟨c1, c2⟩ := hc.1 c
        refine ⟨fun σ2 H2 => σ2 = [some (.ref a), some (.int (nn - low' l (pl + 1))), some (.ref p), some (.ref pf), some (.int (i : Int)), some (.int ((pl + 1 : Nat) : Int)), some (.ref q)] ∧ Ex H8 H2, ?_, ?_⟩
        · rintro σ2 H2 ⟨rfl, x⟩
          exact ⟨pk l nn - (pl + 1), by omega, pl + 1, rfl, by omega, rfl, x⟩
        · refine q_aug (a := nn - low' l pl) (b := q'.2) rfl (ev_ixTr (hT1.mono eA) (eA _ _ hT2) ev_c at_snd) fun HB eB => ?_
          refine s_aug (a := (pl : Int)) (b := 1) rfl ev_c fun HC eC => ⟨?_, ((e9.trans eA).trans eB).trans eC⟩
          have z : nn - low' l pl - q'.2 = nn - low' l (pl + 1) := by omega
          show [some (.ref a), some (V.int (nn - low' l pl - q'.2)), some (.ref p), some (.ref pf), some (.int (i : Int)), some (V.int ((pl : Int) + 1)), some (.ref q)] = _
          rw [z]
          rfl
      · have c : pl = pk l nn := by
          have := of_decide_eq_false hb
          rcases Nat.lt_or_ge pl (pk l nn) with z | z
          · have := (hc.1 z).1
            omega
          · omega
        subst c
        have eqq : q' = qq := Option.some.inj (hq'.symm.trans k1)
        subst eqq
        have e8A := e9.trans eA
        have LA := L8.ex e8A
        have xA : Ex H HA := (e6.trans e68).trans e8A
        have hfA := e8A _ _ hf8
        have mem := chs_mem.mp (show (q'.1, q'.2) ∈ chs S t (g.drop (i + 1)) by rw [hL]; exact List.mem_of_getElem? k1)
        refine q_appO (v := .int q'.1) hpf' xA hfA (ev_var rfl) (ev_ixTr (hT1.mono eA) (eA _ _ hT2) ev_c at_fst) (by rw [ints_len]; omega) fun HB eB fB bB => ?_
        have LB := LA.bt bB np na no nm nu2 ne
        have nTf : T ≠ pf := fun z => by
          have := eA _ _ hT2
          rw [z, hfA] at this
          cases this
        have hqB : HB q = some (.lst us) := bB _ _ nq (e8A _ _ h8)
        have hTB := bB _ _ nTf (eA _ _ hT2)
        obtain ⟨T', hT', hT2'⟩ := tp.get k1
        have eTT : Ev (tOp (rIxL K) (tVar 6) (tVar 5)) [some (.ref a), some (.int (nn - low' l (pk l nn))), some (.ref p), some (.ref pf), some (.int (i : Int)), some (.int ((pk l nn : Nat) : Int)), some (.ref q)] HB (.ref T') := ev_ixR (er_var rfl (sq_of hqB)) (ev_var rfl) (atI_nat hT')
        have nTf' : T' ≠ pf := fun z => by
          rw [z, hf8] at hT2'
          cases hT2'
        refine s_take eB hp' hm' he' (ev_var rfl) (ev_ixTr eTT (bB _ _ nTf' (e8A _ _ hT2')) ev_c at_fst) LB mem.1 fun u3 HC eC fC nC LC => ?_
        have nu3 : u3 ≠ pf := by
          rcases nC with rfl | nC
          · exact nu2
          · exact (ne_of_none fB nC).symm
        have sF : seatF S (t :: g.drop (i + 1)) nn = q'.1 :: seatF (S.erase q'.1) (g.drop (i + 1)) (nn - low' l (pk l nn)) := by
          rw [seatF_cons, hL, ← k2, k3]
        refine ⟨u3, S.erase q'.1, nn - low' l (pk l nn), _, _, _, done ++ [q'.1], rfl, eC, LC, ?_, ?_, ?_, nu3, ?_, ?_, ?_⟩
        · rw [List.length_erase_of_mem mem.1]
          omega
        · rw [← k3]
          have := pick_of (l := chs S t (g.drop (i + 1))) (n := nn) (up_of L5.sa) chs_nn nn0 (by rw [chs_tot]; exact nn1)
          obtain ⟨_, _, z, _⟩ := this
          rw [hL] at z
          exact z
        · rw [← mem.2.2]
          exact k4
        · rw [← ints_snoc]
          exact fC.at fB np.symm nm.symm ne.symm
        · rw [List.length_append, dl]
          rfl
        · rw [← df, sF, List.append_assoc]
          rfl
    · rintro σ' H5 ⟨u, S, nn, v4, v5, v6, done, rfl, e5, L5, hl5, nn0, nn1, nu, hf5, dl, df⟩
      have en : ((g.length : Int)).toNat = g.length := by omega
      rw [en, List.drop_length] at df
      have z : seatF S [] nn = [] := rfl
      rw [z, List.append_nil] at df
      rw [df] at hf5
      exact s_ret (ev_var rfl) fun H6 e6 => k pf H6 hpf' (e5.trans e6) (e6 _ _ hf5)
/-! ### number_of, refused -/
theorem sc_number_of : FnScope ["shuns", "seating", "hall", "found", "guest", "taken", "seat", "many"] ["shuns", "seating"] (defScope (topS 19)) :=
  ⟨rfl, rfl, rfl, by decide +kernel, rfl, by decide +kernel, by decide +kernel⟩

def spNumX (K : PySem.W.Frag) (CS CB : Addr) : Sp := fun vs H _ E => ∃ (x y : V) (o oy : Option (List V)), vs = [x, y] ∧ Th K H x o ∧ Th K H y oy ∧ (badT o = true → RetX CS H E) ∧ (badT o = false → ∃ g, Ok g ∧ o = some (g.map V.int) ∧ offO g oy = false ∧ RetX CB H E)
theorem ok_numX {f f1 f2 CS CB : Addr} {fd fd1 fd2 : FuncData} (F : Fun K "number_of" "number_of" (topS 19) f fd) (B : Bi mg) (XB : XCls K mg "BadSeating" CB) (D_check_shuns : Df P w K mg base (L2.CX P w) 2 "check_shuns" f1 fd1 ["shuns"] (spCheckX K CS))
    (D_is_seating : Df P w K mg base CX0 2 "is_seating" f2 fd2 ["shuns", "seating"] (spOffX K)) : FnOk P w K mg base (L2.CX P w) 3 f fd ["shuns", "seating"] (spNumX K CS CB) := by
  refine F.okX sc_number_of (fun vs H Q E h => ?_) (fun cdv A outer s H vs Q E hr h => ?_)
  · obtain ⟨x, y, o, oy, rfl, _⟩ := h
    rfl
  · obtain ⟨x, y, o, oy, rfl, th, ty, kb, kg⟩ := h
    refine ⟨_, (pss_cons (ps_expr (pe_call D_check_shuns.ok (hr.mono (by decide)) (by rfl) D_check_shuns.g D_check_shuns.kp D_check_shuns.b .nil (passes_call (takes_of rfl rfl rfl rfl) (fun _ _ _ _ h => h)) (pa_cons (pv 0) pa_nil)))
 (pss_cons (ps_if (pt_not (pt_val (pe_call D_is_seating.ok (hr.mono (by decide)) (by rfl) D_is_seating.g D_is_seating.kp D_is_seating.b .nil pass0 (pa_cons (pv 0) (pa_cons (pv 1) pa_nil)))))
 (pss_one (ps_raise rfl (takes_of rfl rfl rfl rfl) (pmk_own PySem.F.excBase_ValueError XB.ex XB.g XB.k (raises_own XB.b XB.t) rfl)))
 pss_nil)
 (pss_cons ps_never
 (pss_cons ps_never
 (pss_cons ps_never
 (pss_one ps_never)))))), ?_⟩
    refine call_checkX (ev_var rfl) th kb fun hb H1 e1 => ?_
    obtain ⟨g, ok, rfl, off, k⟩ := kg hb
    obtain ⟨hg, hz⟩ := id ok
    obtain ⟨a, rfl, ha⟩ := th_at th
    refine q_when (b := true) (et_is (et_not (a := false) (et_B (ev_callB (eb_v (ev_var rfl) (eb_v (ev_var rfl) eb_nil)) fun vs H2 e2 ⟨r, e3, r', e4, e5⟩ Q kk => ?_))) rfl) (fun _ H2 e2 => k H2 (e1.trans e2)) (fun h => nomatch h)
    subst e5 e4 e3
    refine ⟨a, g, y, oy, rfl, e2 _ _ (e1 _ _ ha), by omega, ty.ex (e1.trans e2), ?_⟩
    rw [off]
    exact kk
end


section
variable {P : Program} {w : World} {K : PySem.W.Frag} {mg : Str → Option Value} {base : Heap}
/-! ### what never comes back: it raises -/
def Nv (te : TE) (σ : L2.St) (H : Hp) : Prop := ∀ H1, Ex H H1 → ∀ Q : VK, te σ H1 Q
theorem nv_if {σ : L2.St} {H : Hp} {t : TT} {ta tb : TE} {b : Bool} (h : EvT t σ H b) (h1 : Nv ta σ H) (h2 : Nv tb σ H) : Nv (tIf t ta tb) σ H := fun H1 e Q => h H1 e _ fun H2 e2 => by
  cases b with
  | true => exact h1 H2 (e.trans e2) Q
  | false => exact h2 H2 (e.trans e2) Q
theorem nv_call {σ : L2.St} {H : Hp} {sp : Sp} {E : XK} {ta : TA} {P : List V → Hp → Prop} (h : EvB ta σ H P) (hs : ∀ vs H1, Ex H H1 → P vs H1 → ∀ Q : VK, sp vs H1 Q E) : Nv (tCall sp [] E ta) σ H := fun H1 e Q =>
  h H1 e _ fun vs H2 e2 hp => by
    rw [List.append_nil]
    exact hs vs H2 (e.trans e2) hp Q
theorem s_retNv {σ : L2.St} {H : Hp} {te : TE} {D : Ends} (h : Nv te σ H) : tRet te D σ H := h H (Ex.refl H) _
theorem RetX.ex {C : Addr} {H H' : Hp} {E : XK} (e : Ex H H') (k : RetX C H E) : RetX C H' E := fun H2 x => k H2 (e.trans x)
/-! ### _law_with_shuns -/
theorem sc_law_with_shuns : FnScope ["_law_door", "_law_shuns_here"] ["_law_door", "_law_shuns_here"] (defScope (topS 35)) :=
  ⟨rfl, rfl, rfl, by decide +kernel, rfl, by decide +kernel, by decide +kernel⟩

def spDoor (K : PySem.W.Frag) (C : Addr) : Sp := fun vs H _ E => ∃ (d : Int) (x : V) (o : Option (List V)), vs = [.int d, x] ∧ Th K H x o ∧ badT o = true ∧ RetX C H E
theorem ok_door {f f1 f2 f3 f4 CS CN CB : Addr} {fd fd1 fd2 fd3 fd4 : FuncData} (F : Fun K "_law_with_shuns" "_law_with_shuns" (topS 35) f fd) (B : Bi mg) (D_counts : Df P w K mg base (L2.CX P w) 3 "counts" f1 fd1 ["shuns"] (spCountsX K CS)) (D_seated : Df P w K mg base (L2.CX P w) 3 "seated" f2 fd2 ["shuns"] (spRef K CS))
    (D_seating_of : Df P w K mg base (L2.CX P w) 5 "seating_of" f3 fd3 ["shuns", "number"] (spSeatX K CS CN)) (D_number_of : Df P w K mg base (L2.CX P w) 3 "number_of" f4 fd4 ["shuns", "seating"] (spNumX K CS CB)) : FnOk P w K mg base (L2.CX P w) 6 f fd ["_law_door", "_law_shuns_here"] (spDoor K CS) := by
  refine F.okX sc_law_with_shuns (fun vs H Q E h => ?_) (fun cdv A outer s H vs Q E hr h => ?_)
  · obtain ⟨d, x, o, rfl, _⟩ := h
    rfl
  · obtain ⟨d, x, o, rfl, th, hb, k⟩ := h
    refine ⟨_, (pss_cons (ps_if (pt_cmpR op_lt (pv 0) pe_int (nomark _))
 (pss_one (ps_ret (pe_ifExp (pt_cmpR op_eq (pv 0) pe_int (nomark _)) (pe_call D_counts.ok (hr.mono (by decide)) (by rfl) D_counts.g D_counts.kp D_counts.b .nil (passes_call (takes_of rfl rfl rfl rfl) (fun _ _ _ _ h => h)) (pa_cons (pv 1) pa_nil)) (pe_call D_seated.ok (hr.mono (by decide)) (by rfl) D_seated.g D_seated.kp D_seated.b .nil (passes_call (takes_of rfl rfl rfl rfl) (fun _ _ _ _ h => h)) (pa_cons (pv 1) pa_nil)))))
 pss_nil)
 (pss_one (ps_ret (pe_ifExp (pt_cmpR op_eq (pv 0) pe_int (nomark _)) (pe_call D_seating_of.ok (hr.mono (by decide)) (by rfl) D_seating_of.g D_seating_of.kp D_seating_of.b .nil (passes_call (takes_of rfl rfl rfl rfl) (fun _ _ _ _ h => h)) (pa_cons (pv 1) (pa_cons (pe_un un_neg pe_int) pa_nil))) (pe_call D_number_of.ok (hr.mono (by decide)) (by rfl) D_number_of.g D_number_of.kp D_number_of.b .nil (passes_call (takes_of rfl rfl rfl rfl) (fun _ _ _ _ h => h)) (pa_cons (pv 1) (pa_cons pe_non pa_nil))))))), ?_⟩
    have ng : ∀ {P : Prop}, badT o = false → P := fun h => by rw [hb] at h; exact nomatch h
    refine q_when (b := decide (d < 2)) (et_test (ev_I0 (ev_var rfl) ev_c)) (fun _ H1 e1 => s_retNv (nv_if (b := decide (d = 0)) (et_test (ev_eqI (ev_var rfl) ev_c)) (nv_call (eb_v (ev_var rfl) eb_nil) fun vs H2 e2 ⟨r, e3, e4⟩ Q => ?_) (nv_call (eb_v (ev_var rfl) eb_nil) fun vs H2 e2 ⟨r, e3, e4⟩ Q => ?_)))
      fun _ H1 e1 => s_retNv (nv_if (b := decide (d = 2)) (et_test (ev_eqI (ev_var rfl) ev_c)) (nv_call (eb_v (ev_var rfl) (eb_v (ev_U_neg ev_c) eb_nil)) fun vs H2 e2 ⟨r, e3, r', e4, e5⟩ Q => ?_) (nv_call (eb_v (ev_var rfl) (eb_v ev_c eb_nil)) fun vs H2 e2 ⟨r, e3, r', e4, e5⟩ Q => ?_))
    · subst e4
      exact ⟨x, o, e3, th.ex (e1.trans e2), fun _ => k.ex (e1.trans e2), ng⟩
    · subst e4
      exact ⟨x, o, e3, th.ex (e1.trans e2), hb, k.ex (e1.trans e2)⟩
    · subst e5 e4
      exact ⟨x, _, o, e3, th.ex (e1.trans e2), itm_int, fun _ => k.ex (e1.trans e2), ng⟩
    · subst e5 e4
      exact ⟨x, _, o, none, e3, th.ex (e1.trans e2), th_non, fun _ => k.ex (e1.trans e2), ng⟩
/-! ### _law_kinds, within the suite that holds the error -/
/-- what is asked of the held error's class D -/
structure KC (K : PySem.W.Frag) (CS CN CB D : Addr) (b1 b2 b3 : Bool) : Prop where
  ex : ExcC K D
  k1 : PySem.W.kitOne K (.ref D) (.ref CS) = some b1
  k2 : PySem.W.kitOne K (.ref D) (.ref CN) = some b2
  k3 : PySem.W.kitOne K (.ref D) (.ref CB) = some b3
  k4 : PySem.W.kitOne K (.ref D) (.type "ValueError") = some true
theorem call_isP {X : Cx} {p : Addr × Obj} {D : Addr} (C : ExcC X.K D) (hp : p ∈ X.pn) (hz : Zc (.ref D) none p.2) (hf : ∃ vs, p.2.data = .fields vs) : CallR X (.builtin "isinstance") (rIsE X.K D p.1) := by
  intro pins s σ H xs us Q I r h
  obtain ⟨c, cv, b, rfl, hcv, e, q⟩ := h
  cases r with
  | cons rx rr =>
    cases rr with
    | cons rt rr =>
      cases rr
      cases rx
      cases hcv _ rt
      have hget := (I.pin p (List.mem_append.mpr (.inl hp))).1
      obtain ⟨vs, hv⟩ := hf
      have J : PySem.W.InstAt s.heap p.1 p.2 D none := by
        obtain ⟨a, oc, od, oda, osl⟩ := p
        obtain ⟨h1, h2⟩ := hz
        dsimp only at h1 h2 hv hget
        subst h1 h2 hv
        exact ⟨hget, rfl, rfl, trivial⟩
      exact PySem.W.kia_one (PySem.W.handS_kitx_exc C.hg C.hk C.hs C.hd C.ha C.hn C.ht C.hm) I.kIn J e (fun z => nomatch z) fun tk => ⟨.bl b, H, I.kept (t' := tk) fun _ _ z => z, rfl, q⟩
theorem kIsP {X : Cx} (K : PySem.W.Frag) {p : Addr × Obj} {D : Addr} (C : ExcC K D) (hp : p ∈ X.pn) (hz : Zc (.ref D) none p.2) (hf : ∃ vs, p.2.data = .fields vs) (h : X.K = K := by rfl) : CallR X (.builtin "isinstance") (rIsE K D p.1) := by
  subst h
  exact call_isP C hp hz hf
/-- a def that is asked of the error that is held, at p -/
structure FnE (P : Program) (w : World) (K : PySem.W.Frag) (mg : Str → Option Value) (base : Heap) (k : Nat) (f : Addr) (fd : FuncData) (x : Str) (D : Addr) (xs : List V) : Prop where
  run : ∀ (A : Around) (outer : List Env) (s : Shared) (H : Hp) (args : Args) (Q : VK) (p : Addr × Obj), L2H.RoomH k A → L2H.PinOk outer H s p → Zc (.ref D) none p.2 → (∃ vs, p.2.data = .fields vs) → Env0 P w K mg base A outer s H → BindsTo s fd args [(x, .ref p.1)] → RetL xs H Q →
    codeAny (model P w) A (.call (.ref f) args) (CR CX0 outer P w H s Q E0) s
theorem sc_law_kinds : FnScope ["_law_error", "_law_found"] ["_law_error"] (defScope (topS 34)) :=
  ⟨rfl, rfl, rfl, by decide +kernel, rfl, by decide +kernel, by decide +kernel⟩

theorem ev_isP {σ : L2.St} {H : Hp} {ta tb : TE} {a D : Addr} {c : V} {cv : Value} {b : Bool} (h : Ev ta σ H (.ref a)) (h2 : Ev tb σ H c) (hc : ∀ u, RelV c u → u = cv) (hk : PySem.W.kitOne K (.ref D) cv = some b) : Ev (tCB (rIsE K D a) (tCons ta (tCons tb tNil))) σ H (.bl b) := fun H1 e Q q =>
  h H1 e _ fun H2 e2 => h2 H2 (e.trans e2) _ fun H3 e3 => ⟨c, cv, b, rfl, hc, hk, q H3 (e2.trans e3)⟩
theorem ok_kinds {f CS CN CB D : Addr} {fd : FuncData} {b1 b2 b3 : Bool} (F : Fun K "_law_kinds" "_law_kinds" (topS 34) f fd) (B : Bi mg) (hV : mg "ValueError" = none) (gS : mg "BadShuns" = some (.ref CS)) (gN : mg "BadNumber" = some (.ref CN)) (gB : mg "BadSeating" = some (.ref CB)) (C : KC K CS CN CB D b1 b2 b3) :
    FnE P w K mg base 1 f fd "_law_error" D ([b1, b2, b3, true].map V.bl) := by
  obtain ⟨oc, od, kV, doc, pm, an, cdv, ct, osl, rfl, lk, hcd⟩ := F.ex
  have S := sc_law_kinds
  refine ⟨fun A outer s H args Q p hr hpin hz hf e0 hb k => ?_⟩
  have KX : K.In s.heap := e0.mod.kin.keeps fun b o e => (e0.bs b o e).1
  have lim : s.heap.NoLimit := e0.mod.nolimit.keeps fun b o e => (e0.bs b o e).1
  have hkind : ∀ y ∈ (["_law_error"] : List Str).zip [Value.ref p.1], (defScope (topS 34)).names.lookup y.1 = some .local ∨ ((defScope (topS 34)).names.lookup y.1 = some .cell ∧ ((cellsFrom (s.heap.objs.size + 1) (defScope (topS 34)).names []).lookup y.1).isSome = true) := fun ⟨n, v⟩ hy => by
    rcases S.par n (List.of_mem_zip hy).1 with q | q
    · exact .inl q
    · exact .inr ⟨q, PySem.W.cellsFrom_some _ _ _ (.inl q)⟩
  refine codeAny_call_function hr.depth (KX _ _ lk) rfl S.co S.gen rfl (PySem.W.codeRec_of KX hcd) (hb _ _ _ _ ?_)
  refine wpAny_newFunctionEnv_cells S.kind hkind fun env he s1 x => ?_
  subst he
  refine ⟨lim.keeps x.toInCall.keep, codeAny_func ?_⟩
  have I : Inv (L2H.cxH CX0 P w K mg base ["_law_error", "_law_found"] "_law_kinds" (defScope (topS 34)) f cdv A outer s H E0 p) [] (L2.start ["_law_error", "_law_found"] [V.ref p.1]) H s1 := L2H.inv_startH S hpin e0 rfl (.cons rfl .nil) x
  obtain ⟨t, ht, hq⟩ : ∃ t, PSs (L2H.cxH CX0 P w K mg base ["_law_error", "_law_found"] "_law_kinds" (defScope (topS 34)) f cdv A outer s H E0 p) (defBody (topS 34)) t ∧ t { nx := fun _ H' => Q .non H', rt := Q } (L2.start ["_law_error", "_law_found"] [V.ref p.1]) H := by
    have hp : p ∈ (L2H.cxH CX0 P w K mg base ["_law_error", "_law_found"] "_law_kinds" (defScope (topS 34)) f cdv A outer s H E0 p).pn := List.mem_singleton.mpr rfl
    refine ⟨_, (pss_cons (ps_set (i := 1) sc_law_kinds.nd rfl (Or.inl rfl) (pe_lst (pa_cons (pe_callB (kIsP K C.ex hp hz hf) (by rfl) B.isinstance (by decide +kernel) (pa_cons (pv 0) (pa_cons (pe_glob (v := .ref CS) (by rfl) gS rfl) pa_nil))) (pa_cons (pe_callB (kIsP K C.ex hp hz hf) (by rfl) B.isinstance (by decide +kernel) (pa_cons (pv 0) (pa_cons (pe_glob (v := .ref CN) (by rfl) gN rfl) pa_nil))) (pa_cons (pe_callB (kIsP K C.ex hp hz hf) (by rfl) B.isinstance (by decide +kernel) (pa_cons (pv 0) (pa_cons (pe_glob (v := .ref CB) (by rfl) gB rfl) pa_nil))) pa_nil)))))
 (pss_one (ps_ret (pe_op op_cat (pv 1) (pe_lst (pa_cons (pe_callB (kIsP K C.ex hp hz hf) (by rfl) B.isinstance (by decide +kernel) (pa_cons (pv 0) (pa_cons (pe_bltn (v := .ty "ValueError") (u := .type "ValueError") (by rfl) hV (by decide +kernel) rfl) pa_nil))) pa_nil)))))), ?_⟩
    refine q_asgL (xs := [V.bl b1, V.bl b2, V.bl b3]) (el_lst (ea_cons (ev_isP (ev_var rfl) ev_c (fun u h => h) C.k1) (ea_cons (ev_isP (ev_var rfl) ev_c (fun u h => h) C.k2) (ea_cons (ev_isP (ev_var rfl) ev_c (fun u h => h) C.k3) ea_nil))) (by show 3 ≤ 100000; decide)) fun q H1 hq e1 h1 => ?_
    exact s_retL (xs := [V.bl b1, V.bl b2, V.bl b3] ++ [V.bl true]) (el_cat (es_var rfl h1) (es_new (el_lst (ea_cons (ev_isP (ev_var rfl) ev_c (fun u h => h) C.k4) ea_nil) (by show 1 ≤ 100000; decide))) (by show 3 + 1 ≤ 100000; decide)) fun r H2 hr e2 h2 => k r H2 (fresh_back e1 hr) (e1.trans e2) h2
  refine wpAny_mono (ht.run [] s1 _ H _ I hq) (fun fl s' hs => ?_) fun e s' hs => hs
  cases fl with
  | ret u =>
    obtain ⟨v, σ', H', J, rv, q⟩ := hs
    exact ⟨v, H', J.os, J.bare, J.base, J.hok, rv, q⟩
  | next =>
    obtain ⟨σ', H', J, q⟩ := hs
    exact ⟨.non, H', J.os, J.bare, J.base, J.hok, rfl, q⟩
  | brk =>
    obtain ⟨_, _, _, q⟩ := hs
    exact False.elim q
  | cont =>
    obtain ⟨_, _, _, q⟩ := hs
    exact False.elim q
end


section
variable {P : Program} {w : World} {K : PySem.W.Frag} {mg : Str → Option Value} {base : Heap}
/-! ### _law_told -/
/-- a call of the def that slot i holds, where what is raised is wished for at the caller's slots -/
def tCallLS (i : Nat) (f : Addr) (sp : Sp) (E : L2.St → XK) (t : TA) : TE := fun σ H Q => σ[i]? = some (some (.ref f)) ∧ t σ H fun vs H1 => sp vs H1 Q (E σ)
theorem pe_callLS {X : Cx} {CX : CXT} {k i : Nat} {f : Addr} {fd : FuncData} {ps : List Str} {sp : Sp} {E : L2.St → XK} {x : Str} {p pos : Pos} {e : Expr} {es : List Expr} {t : TA} (F : FnOk X.prog X.w X.K X.mg X.base CX k f fd ps sp) (hr : Room k X.A) (hN : X.N[i]? = some x) (hv : Vis X.env.scope x) (hk : PySem.W.keepIn X.K (.ref f) = true) (hb : Binds X.K fd ps [])
    (hx : ∀ σ, PassesAt CX X σ (E σ)) (ha : PA X (e :: es) t) (hdb : (x == ("__debug__" : Str)) = false := by decide) (hcd : (x == ("__classdict__" : Str)) = false := by decide)
    (he : starEach (e :: es) X.env = (false, eval e X.env) :: starEach es X.env := by rfl) (hpl : (backTo pos (starEach es X.env)).any (·.1) = false := by rfl) : PE X (.Call (.Name x p) (e :: es) [] pos) (tCallLS i f sp E t) := by
  refine ⟨fun pins s σ H Q I h => ?_⟩
  obtain ⟨hs, ht⟩ := h
  refine wpAny_Call_Name_kw (thn ((pe_var (pos := p) hN hv hdb hcd).run pins s σ H (fun v H1 => v = .ref f ∧ H1 = H) I ⟨.ref f, hs, rfl, rfl⟩) fun u s1 ⟨v, H1, I1, r1, q1⟩ => ?_)
  obtain ⟨rfl, rfl⟩ := q1
  cases r1
  exact PySem.W.callWith_K (h₀ := X.base) I.ok.mod.kin hk (thn (ha.run pos pins s1 σ _ _ I1 ht) fun us s2 ⟨vs, H2, I2, r, q⟩ => ⟨I2.kIn, run_fnS F hr hb (hx σ) I2 r q⟩) he hpl
/-- the kinds of the error that the suite holds at a -/
def tKinds (i : Nat) (a : Addr) (cls : Value) (d : Option Addr) (S : Addr → List V → Prop) : TE := fun σ H Q => σ[i]? = some (some (.ref a)) ∧ ∃ D xs, cls = .ref D ∧ d = none ∧ S D xs ∧ RetL xs H Q
theorem pe_kinds {X : Cx} {k i : Nat} {f : Addr} {fd : FuncData} {x y : Str} {a : Addr} {oe : Obj} {cls : Value} {d : Option Addr} {S : Addr → List V → Prop} {q pos p2 : Pos} (hp : (a, oe) ∈ X.pn) (hz : Zc cls d oe) (hf : ∃ vs, oe.data = .fields vs)
    (F : ∀ D xs, S D xs → FnE X.prog X.w X.K X.mg X.base k f fd y D xs) (hr : L2H.RoomH k X.A) (hg : Gl X x) (hm : X.mg x = some (.ref f)) (hk : PySem.W.keepIn X.K (.ref f) = true) (hb : Binds X.K fd [y] []) {n : Str} (hN : X.N[i]? = some n) (hv : Vis X.env.scope n)
    (hdb : (x == ("__debug__" : Str)) = false := by decide) (hdb2 : (n == ("__debug__" : Str)) = false := by decide) (hcd : (n == ("__classdict__" : Str)) = false := by decide) (he : starEach [Expr.Name n p2] X.env = (false, eval (.Name n p2) X.env) :: starEach [] X.env := by rfl) (hpl : (backTo pos (starEach [] X.env)).any (·.1) = false := by rfl) :
    PE X (.Call (.Name x q) [.Name n p2] [] pos) (tKinds i a cls d S) := by
  refine ⟨fun pins s σ H Q I h => ?_⟩
  obtain ⟨hs, D, xs, rfl, rfl, hS, k'⟩ := h
  refine wpAny_Call_Name_kw (ld_glob I hg hm ?_ hdb)
  have ha : PA X [Expr.Name n p2] (tCons (tVar i) tNil) := pa_cons (pe_var hN hv hdb2 hcd) pa_nil
  refine PySem.W.callWith_K (h₀ := X.base) I.ok.mod.kin hk (thn (ha.run pos pins s σ H (fun vs H1 => vs = [V.ref a] ∧ H1 = H) I ⟨_, hs, rfl, rfl⟩) fun us s1 ⟨vs, H1, I1, r, q1⟩ => ⟨I1.kIn, ?_⟩) he hpl
  obtain ⟨rfl, rfl⟩ := q1
  have P1 := I1.pin (a, oe) (List.mem_append_left _ hp)
  have hpin : L2H.PinOk X.stack H1 s1 (a, oe) := ⟨P1.1, P1.2.1, fun hm => (List.mem_cons.mp (I1.stkSub a hm)).elim P1.2.2.1 P1.2.2.2.1, P1.2.2.2.2⟩
  cases r with
  | cons rv rn =>
    cases rn
    cases rv
    have b := hb s1 [.ref a] I1.kIn rfl
    refine wpAny_call (codeAny_mono ((F D xs hS).run X.A X.stack s1 H1 ⟨[.ref a], []⟩ Q (a, oe) hr hpin hz hf I1.env0 b k') fun r s' hq => ?_)
    cases r with
    | error e => exact False.elim hq
    | ok fl =>
      cases fl with
      | ret u => exact I1.after hq
      | next => exact False.elim hq
      | brk => exact False.elim hq
      | cont => exact False.elim hq
theorem sc_law_told : FnScope ["_law_ask", "_law_one", "_law_other", "_law_error"] ["_law_ask", "_law_one", "_law_other"] (defScope (topS 36)) :=
  ⟨rfl, rfl, rfl, by decide +kernel, rfl, by decide +kernel, by decide +kernel⟩

/-- asked of the def at fA, which keeps spA: it raises an error of a class D whose kinds are xs -/
def spTold (K : PySem.W.Frag) (S : Addr → List V → Prop) (CE fA : Addr) (spA : Sp) : Sp := fun vs H Q _ => ∃ (x y : V) (D : Addr) (xs : List V), vs = [.ref fA, x, y] ∧ S D xs ∧ PySem.W.exmOne K (.ref D) (.ref CE) = some true ∧ (∀ Q' E', RetX D H E' → spA [x, y] H Q' E') ∧ RetL xs H Q
theorem ok_told {f fA fK CE : Addr} {fd fdA fdK : FuncData} {psA : List Str} {spA : Sp} {S : Addr → List V → Prop} (F : Fun K "_law_told" "_law_told" (topS 36) f fd) (FA : FnOk P w K mg base (L2.CX P w) 6 fA fdA psA spA) (kA : PySem.W.keepIn K (.ref fA) = true) (bA : Binds K fdA psA [])
    (gE : mg "SeatError" = some (.ref CE)) (FK : ∀ D xs, S D xs → FnE P w K mg base 1 fK fdK "_law_error" D xs) (gK : mg "_law_kinds" = some (.ref fK)) (kK : PySem.W.keepIn K (.ref fK) = true) (bK : Binds K fdK ["_law_error"] []) :
    FnOk P w K mg base CX0 7 f fd ["_law_ask", "_law_one", "_law_other"] (spTold K S CE fA spA) := by
  refine F.ok sc_law_told (fun vs H Q E h => ?_) (fun cdv A outer s H vs Q E hr h => ?_)
  · obtain ⟨x, y, D, xs, rfl, _⟩ := h
    rfl
  · obtain ⟨x, y, D, xs, rfl, hS, hE, hsp, k⟩ := h
    refine ⟨_, pss_cons (ps_try_as (i := 3) (tb := fun W => tDrop (tCallLS 0 fA spA (WE W) (tCons (tVar 1) (tCons (tVar 2) tNil)))) (ts := fun a cls d => tRet (tKinds 3 a cls d S)) (Wout := fun _ _ _ _ => False) rfl rfl sc_law_told.nd rfl rfl ⟨rfl, by decide, Or.inl gE⟩ takes0
        (fun W pn xe tk _ => pss_one (ps_expr (pe_callLS (i := 0) FA (hr.mono (by decide)) rfl (Or.inl rfl) kA bA (fun σ => passAt tk σ) (pa_cons (pv 1) (pa_cons (pv 2) pa_nil)))))
        (fun a oe cls d pn hz hf => pss_one (ps_ret (pe_kinds (i := 3) List.mem_cons_self hz hf FK ⟨(hr.mono (by decide : 1 ≤ 6)).dp, (hr.mono (by decide : 1 ≤ 6)).un⟩ (by rfl) gK kK bK rfl (Or.inl rfl)))))
      (pss_one (ps_ret (pe_lst pa_nil))), ?_⟩
    refine ⟨rfl, _, rfl, _, rfl, hsp _ _ fun H2 e2 => ⟨true, hE, fun _ a ha => ⟨rfl, D, xs, rfl, rfl, hS, fun p H3 hp e3 h3 => k p H3 (fresh_back e2 hp) (e2.trans e3) h3⟩, fun h => nomatch h⟩⟩
end


section
variable {P : Program} {w : World} {K : PySem.W.Frag} {mg : Str → Option Value} {base : Heap}
/-! ### values of which something is known (G), lists of such -/
def Per (G : Hp → V → Prop) : Prop := ∀ H H' x, Ex H H' → G H x → G H' x
def EvG (te : TE) (σ : L2.St) (H : Hp) (G : Hp → V → Prop) : Prop := ∀ H1, Ex H H1 → ∀ Q : VK, (∀ x H2, Ex H1 H2 → G H2 x → Q x H2) → te σ H1 Q
def EvGs (ta : TA) (σ : L2.St) (H : Hp) (G : Hp → V → Prop) (n : Nat) : Prop := ∀ H1, Ex H H1 → ∀ Q : List V → Hp → Prop, (∀ us H2, Ex H1 H2 → (∀ u ∈ us, G H2 u) → us.length = n → Q us H2) → ta σ H1 Q
/-- a new list of such -/
def EvGl (te : TE) (σ : L2.St) (H : Hp) (G : Hp → V → Prop) (n : Nat) : Prop := ∀ H1, Ex H H1 → ∀ Q : VK, (∀ p us H2, H1 p = none → Ex H1 H2 → H2 p = some (.lst us) → (∀ u ∈ us, G (hid p H2) u) → us.length = n → Q (.ref p) H2) → te σ H1 Q
theorem hid_new {l : Addr} {H : Hp} {o : HO} (h : H l = none) : Ex H (hid l (upd H l o)) := fun q u hq => by
  rw [hid_upd, hid_at (ne_of_none hq h)]
  exact hq
section
variable {σ : L2.St} {H H0 : Hp} {te ta' tb ti : TE} {t : TA} {D : Ends} {tz tu : TS} {G : Hp → V → Prop} {n m : Nat} {x : V} {xs : List V}
theorem eg_v (h : Ev te σ H x) (g : ∀ H2, Ex H H2 → G H2 x) : EvG te σ H G := fun H1 e Q q => h H1 e _ fun H2 e2 => q x H2 e2 (g H2 (e.trans e2))
theorem eg_l (h : EvL te σ H xs) (g : ∀ p H2, Ex H H2 → H2 p = some (.lst xs) → G H2 (.ref p)) : EvG te σ H G := fun H1 e Q q => h H1 e _ fun p H2 _ e2 h2 => q _ H2 e2 (g p H2 (e.trans e2) h2)
theorem eg_u (h : EvU te σ H xs) (g : ∀ p H2, Ex H H2 → H2 p = some (.tup xs) → G H2 (.ref p)) : EvG te σ H G := fun H1 e Q q => h H1 e _ fun p H2 _ e2 h2 => q _ H2 e2 (g p H2 (e.trans e2) h2)
theorem eg_d (g : ∀ p H2, Ex H H2 → H2 p = some (.dK []) → G H2 (.ref p)) : EvG tDNewK σ H G := fun H1 e Q q p hp => q _ _ (Ex.new hp) (g p _ (e.trans (Ex.new hp)) upd_same)
theorem egs_nil : EvGs tNil σ H G 0 := fun H1 _ Q q => q [] H1 (Ex.refl H1) (fun _ h => nomatch h) rfl
theorem egs_cons (pg : Per G) (h : EvG te σ H G) (hr : EvGs t σ H G n) : EvGs (tCons te t) σ H G (n + 1) := fun H1 e Q q =>
  h H1 e _ fun x H2 e2 g => hr H2 (e.trans e2) _ fun us H3 e3 gs hl => q _ H3 (e2.trans e3) (fun u hu => by
    rcases List.mem_cons.mp hu with rfl | hu
    · exact pg _ _ _ e3 g
    · exact gs u hu) (by rw [List.length_cons, hl])
theorem egl_lst (pg : Per G) (h : EvGs t σ H G n) (hn : n ≤ 1000) : EvGl (tLst t) σ H G n := fun H1 e Q q => h H1 e _ fun us H2 e2 gs hl => ⟨sz_of (by omega), fun l hn => q l us _ (fresh_back e2 hn) (e2.trans (Ex.new hn)) upd_same (fun u hu => pg _ _ _ (hid_new hn) (gs u hu)) hl⟩
theorem egl_cat {l : Addr} {vs : List V} (pg : Per G) (ha : Ev ta' σ H (.ref l)) (hl : H l = some (.lst vs)) (hg : ∀ u ∈ vs, G (hid l H) u) (hb : EvGl tb σ H G n) (hz : vs.length + n ≤ 100000) : EvGl (tOp rCat ta' tb) σ H G (vs.length + n) := fun H1 e Q q =>
  ha H1 e _ fun H2 e2 => hb H2 (e.trans e2) _ fun p us H3 hp e3 h3 gs hn => ⟨l, p, vs, us, rfl, rfl, e3 _ _ (e2 _ _ (e _ _ hl)), h3, sz_of (by omega), fun k hk =>
    q k _ _ (fresh_back (e2.trans e3) hk) ((e2.trans e3).trans (Ex.new hk)) upd_same (fun u hu => by
      refine pg _ _ _ (hid_new hk) ?_
      rcases List.mem_append.mp hu with hu | hu
      · exact pg _ _ _ (hid_sub.trans ((e.trans e2).trans e3)) (hg u hu)
      · exact pg _ _ _ hid_sub (gs u hu)) (by rw [List.length_append, hn])⟩
theorem q_asgG {i : Nat} (h : EvGl te σ H G n) (k : ∀ p us H1, H p = none → Ex H H1 → H1 p = some (.lst us) → (∀ u ∈ us, G (hid p H1) u) → us.length = n → tz D (σ.set i (some (.ref p))) H1) : tSeq (tAsg te (gName i)) tz D σ H := h H (Ex.refl H) _ fun p us H1 hp e h1 g hn => k p us H1 hp e h1 g hn
theorem s_asgG {i : Nat} (h : EvGl te σ H G n) (k : ∀ p us H1, H p = none → Ex H H1 → H1 p = some (.lst us) → (∀ u ∈ us, G (hid p H1) u) → us.length = n → D.nx (σ.set i (some (.ref p))) H1) : tAsg te (gName i) D σ H := h H (Ex.refl H) _ fun p us H1 hp e h1 g hn => k p us H1 hp e h1 g hn
/-- l.append(a new list), l one's own -/
theorem s_appG {l : Addr} {us ys : List V} (h0 : H0 l = none) (e0 : Ex H0 H) (hl : H l = some (.lst us)) (ha : Ev ta' σ H (.ref l)) (h : EvL te σ H ys) (hz : us.length < 100000)
    (k : ∀ p H2, H p = none → Ex H0 H2 → Ex (hid l H) (hid l H2) → H2 l = some (.lst (us ++ [.ref p])) → p ≠ l → H2 p = some (.lst ys) → D.nx σ H2) : tDrop (tBM K "list" rAppend ta' (tCons te tNil)) D σ H :=
  s_appL hl ha h hz fun p H1 hp e1 h1 => by
    have ne : p ≠ l := (ne_of_none hl hp).symm
    refine k p _ hp (Ex.mut (e0.trans e1) h0) ?_ upd_same ne (by rw [upd_ne ne]; exact h1)
    rw [hid_upd]
    exact hid_ex e1
theorem q_appG {l : Addr} {us ys : List V} (h0 : H0 l = none) (e0 : Ex H0 H) (hl : H l = some (.lst us)) (ha : Ev ta' σ H (.ref l)) (h : EvL te σ H ys) (hz : us.length < 100000)
    (k : ∀ p H2, H p = none → Ex H0 H2 → Ex (hid l H) (hid l H2) → H2 l = some (.lst (us ++ [.ref p])) → p ≠ l → H2 p = some (.lst ys) → tz D σ H2) : tSeq (tDrop (tBM K "list" rAppend ta' (tCons te tNil))) tz D σ H := s_appG (D := { D with nx := tz D }) h0 e0 hl ha h hz k
/-- for x in a new tuple of such -/
theorem s_forTG {j : Nat} (pg : Per G) (h : EvGs t σ H G n) (hn : n ≤ 1000) (Pv : Hp → Nat → L2.St → Hp → Prop) (h0 : ∀ H1, Ex H H1 → Pv H1 0 σ H1) (hx : ∀ H1 i σ' H', Pv H1 i σ' H' → Ex H1 H')
    (hs : ∀ H1 i x σ' H', Ex H H1 → G H1 x → Pv H1 i σ' H' → tu { D with nx := Pv H1 (i + 1), ct := Pv H1 (i + 1), bk := D.nx } (σ'.set j (some x)) H') (hd : ∀ H1 σ' H', Ex H H1 → Pv H1 n σ' H' → D.nx σ' H') : tFor (iTup K (tTup t)) (gName j) tu D σ H :=
  h H (Ex.refl H) _ fun vs H1 e1 hv hl => ⟨sz_of (by omega), fun T hT => ⟨T, rfl, ⟨vs, st_of upd_same⟩, for_tup (Pv (upd H1 T (.tup vs))) (h0 _ (e1.trans (Ex.new hT))) (fun i σ' H' _ p => st_of (hx _ i σ' H' p T _ upd_same))
    (fun i x σ' H' hi p => hs _ i x σ' H' (e1.trans (Ex.new hT)) (pg _ _ _ (Ex.new hT) (hv x (List.mem_of_getElem? hi))) p) fun σ' H' p => hd _ σ' H' (e1.trans (Ex.new hT)) (by rw [← hl]; exact p)⟩⟩
theorem q_forTG {j : Nat} (pg : Per G) (h : EvGs t σ H G n) (hn : n ≤ 1000) (Pv : Hp → Nat → L2.St → Hp → Prop) (h0 : ∀ H1, Ex H H1 → Pv H1 0 σ H1) (hx : ∀ H1 i σ' H', Pv H1 i σ' H' → Ex H1 H')
    (hs : ∀ H1 i x σ' H', Ex H H1 → G H1 x → Pv H1 i σ' H' → tu { D with nx := Pv H1 (i + 1), ct := Pv H1 (i + 1), bk := tz D } (σ'.set j (some x)) H') (hd : ∀ H1 σ' H', Ex H H1 → Pv H1 n σ' H' → tz D σ' H') : tSeq (tFor (iTup K (tTup t)) (gName j) tu) tz D σ H :=
  s_forTG (D := { D with nx := tz D }) pg h hn Pv h0 hx hs hd
/-- for at in range(0, n, 1 + n // 6) -/
def stepN (n : Nat) : Int := 1 + (n : Int) / 6
def turnsN (n : Nat) : Nat := (Builtin.Range.rangeSize 0 (n : Int) (stepN n)).toNat
theorem turns_ok : ∀ n, n < 64 → turnsN n ≤ 63 ∧ ((turnsN n : Nat) : Int) = Builtin.Range.rangeSize 0 (n : Int) (stepN n) ∧ Builtin.Range.small 0 (n : Int) (stepN n) = true ∧ stepN n ≠ 0 ∧ (stepN n).natAbs < 1073741824 ∧ ∀ i, i < turnsN n → (i : Int) * stepN n < (n : Int) := by decide +kernel
theorem s_forR3 {n j : Nat} (hn : n < 64) (h : EvA t σ H [.int 0, .int (n : Int), .int (stepN n)]) (Pv : Nat → L2.St → Hp → Prop) (h0 : ∀ H1, Ex H H1 → Pv 0 σ H1)
    (hs : ∀ i (x : Nat) σ' H', i < 63 → x < n → Pv i σ' H' → tu { D with nx := Pv (i + 1), ct := Pv (i + 1), bk := D.nx } (σ'.set j (some (.int (x : Int)))) H') (hd : ∀ i σ' H', Pv i σ' H' → D.nx σ' H') : tFor (iRng3 t) (gName j) tu D σ H := h H (Ex.refl H) _ fun H1 e1 => by
  obtain ⟨a1, a2, a3, a4, a5, a6⟩ := turns_ok n hn
  refine ⟨0, (n : Int), stepN n, turnsN n, rfl, ⟨a4, a5, a3, a2.symm⟩, for_rangeC (lo := 0) (c := stepN n) (n := turnsN n) Pv (h0 H1 e1) (fun i σ' H' hi p => ?_) fun σ' H' p => hd _ σ' H' p⟩
  have q := a6 i hi
  have st : 0 ≤ stepN n := by unfold stepN; omega
  have q0 : 0 ≤ (i : Int) * stepN n := Int.mul_nonneg (Int.natCast_nonneg _) st
  obtain ⟨x, hx⟩ : ∃ x : Nat, 0 + (i : Int) * stepN n = (x : Int) := ⟨((i : Int) * stepN n).toNat, by omega⟩
  show tu { D with nx := Pv (i + 1), ct := Pv (i + 1), bk := D.nx } (σ'.set j (some (.int (0 + (i : Int) * stepN n)))) H'
  rw [hx]
  exact hs i x σ' H' (by omega) (by omega) p
theorem q_forR3 {n j : Nat} (hn : n < 64) (h : EvA t σ H [.int 0, .int (n : Int), .int (stepN n)]) (Pv : Nat → L2.St → Hp → Prop) (h0 : ∀ H1, Ex H H1 → Pv 0 σ H1)
    (hs : ∀ i (x : Nat) σ' H', i < 63 → x < n → Pv i σ' H' → tu { D with nx := Pv (i + 1), ct := Pv (i + 1), bk := tz D } (σ'.set j (some (.int (x : Int)))) H') (hd : ∀ i σ' H', Pv i σ' H' → tz D σ' H') : tSeq (tFor (iRng3 t) (gName j) tu) tz D σ H :=
  s_forR3 (D := { D with nx := tz D }) hn h Pv h0 hs hd
end
/-! ### two lists of truths that are one -/
theorem dp_bls (K : PySem.W.Frag) (H : Hp) : ∀ bs : List Bool, DpAll K H (bs.map V.bl) (bs.map PyData.bool)
  | [] => .nil
  | b :: bs => .cons (.bl b) (dp_bls K H bs)
theorem lay_bls : ∀ bs : List Bool, PyData.canLayAll0 (bs.map PyData.bool) = true
  | [] => by simp [PyData.canLayAll0]
  | b :: bs => by simp [PyData.canLayAll0, PyData.canLay0, lay_bls bs]
theorem depth_bls : ∀ bs : List Bool, PyData.depthAll (bs.map PyData.bool) ≤ 2
  | [] => by simp [PyData.depthAll]
  | b :: bs => by
    have h := depth_bls bs
    simp only [List.map_cons, PyData.depthAll, PyData.depth]
    omega
theorem shaped_bls (bs : List Bool) : SeqAt.shaped (.list (bs.map PyData.bool)) = true := by
  have h1 := depth_bls bs
  have h2 : PyData.depth (.list (bs.map PyData.bool)) ≤ 64 := by
    simp only [PyData.depth]
    omega
  show (PyData.canLay0 (.list (bs.map PyData.bool)) && decide (PyData.depth (.list (bs.map PyData.bool)) ≤ 64)) = true
  rw [Bool.and_eq_true]
  exact ⟨by simp only [PyData.canLay0]; exact lay_bls bs, decide_eq_true h2⟩
theorem eqv_bls : ∀ bs : List Bool, PyData.eqvAll (bs.map PyData.bool) (bs.map PyData.bool) = true
  | [] => by simp [PyData.eqvAll]
  | b :: bs => by
    simp only [List.map_cons, PyData.eqvAll, PyData.eqv, eqv_bls bs]
    cases b <;> rfl
section
variable {σ : L2.St} {H : Hp} {ta tb : TE} {bs : List Bool}
theorem ev_eqBs (ha : EvR K ta σ H (bs.map V.bl)) (hb : EvR K tb σ H (bs.map V.bl)) : Ev (tOp (rEqD K) ta tb) σ H (.bl true) := fun H1 e Q q =>
  ha H1 e _ fun p H2 e2 hp => hb H2 (e.trans e2) _ fun p2 H3 e3 hp2 => ⟨_, _, .lst (ex_l e3 hp) (dp_bls K H3 bs), .lst hp2 (dp_bls K H3 bs), shaped_bls bs, shaped_bls bs, by
    have z : PyData.eqv (.list (bs.map PyData.bool)) (.list (bs.map PyData.bool)) = true := by
      simp only [PyData.eqv]
      exact eqv_bls bs
    rw [z]
    exact q H3 (e2.trans e3)⟩
theorem ev_neBs (ha : EvR K ta σ H (bs.map V.bl)) (hb : EvR K tb σ H (bs.map V.bl)) : Ev (tOp (rNeD K) ta tb) σ H (.bl false) := fun H1 e Q q =>
  ha H1 e _ fun p H2 e2 hp => hb H2 (e.trans e2) _ fun p2 H3 e3 hp2 => ⟨_, _, .lst (ex_l e3 hp) (dp_bls K H3 bs), .lst hp2 (dp_bls K H3 bs), shaped_bls bs, shaped_bls bs, by
    have z : PyData.eqv (.list (bs.map PyData.bool)) (.list (bs.map PyData.bool)) = true := by
      simp only [PyData.eqv]
      exact eqv_bls bs
    rw [z]
    exact q H3 (e2.trans e3)⟩
end
/-- asked of a def that raises an error of class D -/
theorem el_told {σ : L2.St} {H : Hp} {t1 t2 t3 : TE} {S : Addr → List V → Prop} {CE fA D : Addr} {spA : Sp} {xs : List V} {x y : V} {E : XK} (h1 : Ev t1 σ H (.ref fA)) (h2 : Ev t2 σ H x) (h3 : Ev t3 σ H y) (hS : S D xs) (hE : PySem.W.exmOne K (.ref D) (.ref CE) = some true)
    (hs : ∀ H1, Ex H H1 → ∀ Q' E', RetX D H1 E' → spA [x, y] H1 Q' E') : EvL (tCall (spTold K S CE fA spA) [] E (tCons t1 (tCons t2 (tCons t3 tNil)))) σ H xs :=
  el_callB (eb_v h1 (eb_v h2 (eb_v h3 eb_nil))) fun vs H1 e ⟨r, e1, r', e2, r'', e3, e4⟩ Q k => by
    subst e4 e3 e2
    exact ⟨x, y, D, xs, e1, hS, hE, hs H1 e, k⟩
end


section
variable {P : Program} {w : World} {K : PySem.W.Frag} {mg : Str → Option Value} {base : Heap}
/-! ### _law_seatings_right -/
def GT (K : PySem.W.Frag) (P : Option (List V) → Prop) : Hp → V → Prop := fun H x => ∃ o, Th K H x o ∧ P o
theorem gt_per {P : Option (List V) → Prop} : Per (GT K P) := fun _ _ _ e ⟨o, h, p⟩ => ⟨o, h.ex e, p⟩
def Sti (K : PySem.W.Frag) (x : V) : Prop := ∀ H, Itm K H x
theorem sti_ints (g : List Int) : ∀ x ∈ g.map V.int, Sti K x := fun x hx H => by
  obtain ⟨n, _, rfl⟩ := List.mem_map.mp hx
  exact itm_int
theorem sti_app {xs ys : List V} (h : ∀ x ∈ xs, Sti K x) (h' : ∀ x ∈ ys, Sti K x) : ∀ x ∈ xs ++ ys, Sti K x := fun x hx => (List.mem_append.mp hx).elim (h x) (h' x)
theorem sti_one {v : V} (h : Sti K v) : ∀ x ∈ [v], Sti K x := fun x hx => by
  rw [List.mem_singleton.mp hx]
  exact h
theorem sti_rep {v : V} (h : Sti K v) (n : Nat) : ∀ x ∈ List.replicate n v, Sti K x := fun x hx => by
  rw [List.eq_of_mem_replicate hx]
  exact h
theorem eg_th {σ : L2.St} {H : Hp} {te : TE} {xs : List V} {P : Option (List V) → Prop} (h : EvL te σ H xs) (hs : ∀ x ∈ xs, Sti K x) (hz : xs.length ≤ 1000) (hp : P (some xs)) : EvG te σ H (GT K P) := eg_l h fun p H2 _ h2 => ⟨_, .lst h2 (fun x hx => hs x hx H2) hz, hp⟩
theorem eu_tuple {σ : L2.St} {H : Hp} {ta : TE} {xs : List V} (ha : EvR K ta σ H xs) : EvU (tCB (rTp K) (tCons ta tNil)) σ H xs := fun H1 e Q q =>
  ha H1 e _ fun p H2 e2 hp => ⟨p, xs, rfl, Or.inl ⟨hp, fun l hl => q l _ (fresh_back e2 hl) (e2.trans (Ex.new hl)) upd_same⟩⟩
theorem s_swapW {σ : L2.St} {H H0 : Hp} {ta tb tc ti tj : TE} {D : Ends} {l : Addr} {ns : List Int} {x y : Int} {i j : Nat} (h0 : H0 l = none) (e0 : Ex H0 H) (hl : H l = some (.lst (ns.map V.int))) (ha : Ev ta σ H (.int x)) (hb : Ev tb σ H (.int y)) (hc : ∀ G, Bt l H G → Ev tc σ G (.ref l)) (hi : ∀ G, Ev ti σ G (.int (i : Int))) (hj : ∀ G, Ev tj σ G (.int (j : Int)))
    (li : i < ns.length) (lj : j < ns.length) (k : ∀ H2, Ex H0 H2 → H2 l = some (.lst (((ns.set i x).set j y).map V.int)) → Bt l H H2 → D.nx σ H2) :
    tAsg (tTup (tCons ta (tCons tb tNil))) (gTup K 2 (gCons (gSub tc ti rSetL) (gCons (gSub tc tj rSetL) gNil))) D σ H :=
  ha H (Ex.refl H) _ fun H1 e1 => hb H1 e1 _ fun H2 e2 => ⟨by show 2 ≤ sizeLine; decide, fun T hT => by
    have eT : Ex H (upd H2 T (.tup [.int x, .int y])) := (e1.trans e2).trans (Ex.new hT)
    generalize hG : upd H2 T (.tup [.int x, .int y]) = G at eT
    have hT' : G T = some (.tup [.int x, .int y]) := by rw [← hG]; exact upd_same
    refine ⟨T, _, rfl, st_of hT', rfl, _, _, rfl, hc G (fun q o _ h => eT _ _ h) G (Ex.refl _) _ fun G1 x1 => hi G1 G1 (Ex.refl _) _ fun G2 x2 => ?_⟩
    have eG2 := (eT.trans x1).trans x2
    refine ⟨l, _, (i : Int), i, rfl, rfl, eG2 _ _ hl, ixN_nat (by rw [ints_len]; exact li), ?_⟩
    have b3 : Bt l H (upd G2 l (.lst ((ns.map V.int).set i (.int x)))) := bt_ex eG2
    refine ⟨_, _, rfl, hc _ b3 _ (Ex.refl _) _ fun G4 x4 => hj G4 G4 (Ex.refl _) _ fun G5 x5 => ?_⟩
    have l5 : G5 l = some (.lst ((ns.map V.int).set i (.int x))) := x5 _ _ (x4 _ _ upd_same)
    refine ⟨l, _, (j : Int), j, rfl, rfl, l5, ixN_nat (by rw [List.length_set, ints_len]; exact lj), rfl, ?_⟩
    have b5 : Bt l H (upd G5 l (.lst (((ns.map V.int).set i (.int x)).set j (.int y)))) := fun q o n h => by
      rw [upd_ne n]
      exact x5 _ _ (x4 _ _ (b3 q o n h))
    refine k _ (fun q o h => ?_) (by rw [upd_same, ints_set, ints_set]) b5
    exact b5 q o (ne_of_none h h0) (e0 _ _ h)⟩
theorem call_offX {σ : L2.St} {H : Hp} {ta tb : TE} {g : List Int} {y : V} {o : Option (List V)} {E : XK} (h : EvS ta σ H (g.map V.int)) (h2 : Ev tb σ H y) (hz : g.length ≤ 1000) (th : Th K H y o) : Ev (tCall (spOffX K) [] E (tCons ta (tCons tb tNil))) σ H (.bl (offO g o)) :=
  ev_callB (eb_s h (eb_v h2 eb_nil)) fun vs H1 e ⟨p, r, e1, hp, r', e2, e3⟩ Q k => by
    subst e3 e2
    exact ⟨p, g, y, o, e1, hp, hz, th.ex e, k⟩
theorem seats_out {n : Nat} {t : Int} : n ≤ ((seats n).filter fun s => decide (s ≠ t)).length + 1 := by
  have e : (seats n).filter (fun s => decide (s ≠ t)) = (seats n).erase t := by
    rw [(seats_nodup n).erase_eq_filter]
    refine List.filter_congr fun s _ => ?_
    by_cases c : s = t
    · subst c; simp
    · simp [c]
  rw [e]
  have l := seats_len n
  by_cases c : t ∈ seats n
  · rw [List.length_erase_of_mem c]; omega
  · rw [List.erase_of_not_mem c]; omega
theorem sc_law_seatings_right : FnScope ["_law_shuns_here", "_law_due", "_law_far_here", "_law_size", "_law_order", "_law_wrong", "_law_guest", "_law_thing", "_law_seat"] ["_law_shuns_here", "_law_due", "_law_far_here"] (defScope (topS 37)) :=
  ⟨rfl, rfl, rfl, by decide +kernel, rfl, by decide +kernel, by decide +kernel⟩

def spRight (K : PySem.W.Frag) : Sp := fun vs H Q _ => ∃ (a pd : Addr) (g : List Int) (far : Int), vs = [.ref a, .ref pd, .int far] ∧ H a = some (.lst (g.map V.int)) ∧ Ok g ∧ H pd = some (.lst ([false, false, true, true].map V.bl)) ∧ RetV (.bl true) H Q
theorem ok_right {f f1 f2 fN CS CB CE : Addr} {fd fd1 fd2 : FuncData} {S : Addr → List V → Prop} (F : Fun K "_law_seatings_right" "_law_seatings_right" (topS 37) f fd) (B : Bi mg) (D_law_off : Df P w K mg base CX0 2 "_law_off" f1 fd1 ["_law_shuns_here", "_law_found"] (spOffX K))
    (D_law_told : Df P w K mg base CX0 7 "_law_told" f2 fd2 ["_law_ask", "_law_one", "_law_other"] (spTold K S CE fN (spNumX K CS CB))) (gN : mg "number_of" = some (.ref fN)) (hS : S CB ([false, false, true, true].map V.bl)) (hE : PySem.W.exmOne K (.ref CB) (.ref CE) = some true) :
    FnOk P w K mg base CX0 8 f fd ["_law_shuns_here", "_law_due", "_law_far_here"] (spRight K) := by
  refine F.ok sc_law_seatings_right (fun vs H Q E h => ?_) (fun cdv A outer s H vs Q E hr h => ?_)
  · obtain ⟨a, pd, g, far, rfl, _⟩ := h
    rfl
  · obtain ⟨a, pd, g, far, rfl, ha, ok, hd, q⟩ := h
    obtain ⟨hg, hz⟩ := id ok
    refine ⟨_, (pss_cons (ps_set (i := 3) sc_law_seatings_right.nd rfl (Or.inl rfl) (pe_callB (kLen K) (by rfl) B.len PySem.boot_len (pa_cons (pv 0) pa_nil)))
 (pss_cons (ps_set (i := 4) sc_law_seatings_right.nd rfl (Or.inl rfl) (pe_listRg rfl (by rfl) B.list (prg_1 (by rfl) B.range (pv 3))))
 (pss_cons (ps_set (i := 5) sc_law_seatings_right.nd rfl (Or.inl rfl) (pe_lst (pa_cons pe_non (pa_cons (pe_callTy (kTuple K) (by rfl) B.tuple (by decide +kernel) (pa_cons (pv 4) pa_nil)) (pa_cons pe_str (pa_cons pe_dnewK (pa_cons pe_int (pa_cons (pe_op op_cat (pv 4) (pe_lst (pa_cons (pv 3) pa_nil))) (pa_cons (pe_op op_cat (pv 4) (pe_lst (pa_cons pe_int pa_nil))) (pa_cons (pe_op op_rep (pe_lst (pa_cons pe_non pa_nil)) (pe_op op_add (pv 3) pe_int)) pa_nil))))))))))
 (pss_cons (ps_expr (kBm K PySem.F.plainAttrs_list PySem.F.slot_list_append PySem.F.type_list_append mt_append (pv 5) (pa_cons (pe_op op_rep (pe_lst (pa_cons (pe_op op_add (pv 3) (pv 2)) pa_nil)) (pe_op op_add (pv 3) pe_int)) pa_nil)))
 (pss_cut (ps_if (pt_cmpR op_gt (pv 3) pe_int (nomark _))
 (pss_cons (ps_set (i := 5) sc_law_seatings_right.nd rfl (Or.inl rfl) (pe_op op_cat (pv 5) (pe_lst (pa_cons (pe_slice (kSl K) (pv 4) (po_some pe_int) po_none) (pa_cons (pe_slice (kSl K) (pv 4) po_none (po_some (pe_un un_neg pe_int))) (pa_cons (pe_op op_cat (pe_lst (pa_cons (pe_un un_neg pe_int) pa_nil)) (pe_slice (kSl K) (pv 4) (po_some pe_int) po_none)) (pa_cons (pe_op op_cat (pe_slice (kSl K) (pv 4) po_none (po_some (pe_un un_neg pe_int))) (pe_lst (pa_cons (pv 3) pa_nil))) (pa_cons (pe_op op_cat (pe_slice (kSl K) (pv 4) po_none (po_some (pe_un un_neg pe_int))) (pe_lst (pa_cons pe_str pa_nil))) (pa_cons (pv 0) pa_nil)))))))))
 (pss_one (ps_set (i := 5) sc_law_seatings_right.nd rfl (Or.inl rfl) (pe_op op_cat (pv 5) (pe_lst (pa_cons (pe_op op_cat (pe_lst (pa_cons pe_bl pa_nil)) (pe_slice (kSl K) (pv 4) (po_some pe_int) po_none)) (pa_cons (pe_op op_cat (pe_slice (kSl K) (pv 4) po_none (po_some (pe_un un_neg pe_int))) (pe_lst (pa_cons pe_non pa_nil))) pa_nil)))))))
 pss_nil)
 (pss_cut (ps_if (pt_cmpR op_gt (pv 3) pe_int (nomark _))
 (pss_one (ps_set (i := 5) sc_law_seatings_right.nd rfl (Or.inl rfl) (pe_op op_cat (pv 5) (pe_lst (pa_cons (pe_op op_cat (pe_lst (pa_cons (pe_ix (kIx K) (pv 4) pe_int (fun _ _ => rfl)) pa_nil)) (pe_slice (kSl K) (pv 4) (po_some pe_int) po_none)) (pa_cons (pe_op op_cat (pe_slice (kSl K) (pv 4) po_none (po_some (pe_un un_neg pe_int))) (pe_slice (kSl K) (pv 4) po_none (po_some pe_int))) pa_nil))))))
 pss_nil)
 (pss_cons (ps_for PassesOwn.never rfl (pi_range3 (by rfl) B.range (pa_cons pe_int (pa_cons (pv 3) (pa_cons (pe_op op_add pe_int (pe_op op_fdiv (pv 3) pe_int)) pa_nil)))) (pg_name (i := 6) sc_law_seatings_right.nd rfl (Or.inr rfl))
 (pss_one (ps_if (pt_cmpR op_ge (pe_ix (kIx K) (pv 0) (pv 6) (fun _ _ => rfl)) pe_int (nomark _))
 (pss_cons (ps_expr (kBm K PySem.F.plainAttrs_list PySem.F.slot_list_append PySem.F.type_list_append mt_append (pv 5) (pa_cons (pe_op op_cat (pe_lst (pa_cons (pe_ix (kIx K) (pv 0) (pv 6) (fun _ _ => rfl)) pa_nil)) (pe_lc (own := [("_law_seat", 8)]) (by rfl) sc_law_seatings_right.nd (kpList K (pv 4)) (blkOk_by (own := [("_law_seat", 8)]) (N := ["_law_shuns_here", "_law_due", "_law_far_here", "_law_size", "_law_order", "_law_wrong", "_law_guest", "_law_thing", "_law_seat"]) (sc := defScope (topS 37)) (by decide +kernel)) (fun _ _ _ _ _ => (pg_name (i := 8) sc_law_seatings_right.nd rfl (Or.inl rfl))) (fun _ _ _ _ _ => (pts_one (pt_cmpR op_ne (pv 8) (pe_ix (kIx K) (pv 0) (pv 6) (fun _ _ => rfl)) (nomark _)))) (fun _ _ _ _ _ => (pv 8)))) pa_nil)))
 (pss_one (ps_asg (pe_tup (pa_cons (pe_ix (kIx K) (pe_ix (kIx K) (pv 5) (pe_un un_neg pe_int) (fun _ _ => rfl)) (pv 6) (fun _ _ => rfl)) (pa_cons (pe_ix (kIx K) (pe_ix (kIx K) (pv 5) (pe_un un_neg pe_int) (fun _ _ => rfl)) pe_int (fun _ _ => rfl)) pa_nil))) (kgTup (n := 2) K (pgs_cons (pg_sub (pe_ix (kIx K) (pv 5) (pe_un un_neg pe_int) (fun _ _ => rfl)) pe_int set_list) (pgs_cons (pg_sub (pe_ix (kIx K) (pv 5) (pe_un un_neg pe_int) (fun _ _ => rfl)) (pv 6) set_list) pgs_nil))))))
 pss_nil)))
 (pss_cons (ps_setLc (i := 5) (own := [("_law_thing", 7)]) (by rfl) sc_law_seatings_right.nd rfl rfl (sw_true rfl rfl rfl (by decide +kernel)) (kpList K (pv 5)) (blkOk_by (own := [("_law_thing", 7)]) (N := ["_law_shuns_here", "_law_due", "_law_far_here", "_law_size", "_law_order", "_law_wrong", "_law_guest", "_law_thing", "_law_seat"]) (sc := defScope (topS 37)) (by decide +kernel)) (fun _ _ _ _ _ => (pg_name (i := 7) sc_law_seatings_right.nd rfl (Or.inl rfl))) (fun _ _ _ _ _ => (pts_one (PW.pt (pw_or (pt_not (pt_val (pe_callB (kIsi K) (by rfl) B.isinstance (by decide +kernel) (pa_cons (pv 7) (pa_cons (pe_bltn (v := .ty "list") (u := .type "list") (by rfl) B.list (by decide +kernel) rfl) pa_nil))))) (pw_or1 (pt_not (pt_val (pe_call D_law_off.ok (hr.mono (by decide)) (by rfl) D_law_off.g D_law_off.kp D_law_off.b .nil pass0 (pa_cons (pv 0) (pa_cons (pv 7) pa_nil)))))))))) (fun _ _ _ _ _ => (pv 7)))
 (pss_one (ps_ret (pe_callB (kAll K) (by rfl) B.all (by decide +kernel) (pa_cons (pe_lc (own := [("_law_thing", 7)]) (by rfl) sc_law_seatings_right.nd (kpList K (pv 5)) (blkOk_by (own := [("_law_thing", 7)]) (N := ["_law_shuns_here", "_law_due", "_law_far_here", "_law_size", "_law_order", "_law_wrong", "_law_guest", "_law_thing", "_law_seat"]) (sc := defScope (topS 37)) (by decide +kernel)) (fun _ _ _ _ _ => (pg_name (i := 7) sc_law_seatings_right.nd rfl (Or.inl rfl))) (fun _ _ _ _ _ => pts_nil) (fun _ _ _ _ _ => (pe_cmpR (kEq K hr.units) (pe_call D_law_told.ok (hr.mono (by decide)) (by rfl) D_law_told.g D_law_told.kp D_law_told.b .nil pass0 (pa_cons (pe_glob (v := .ref fN) (by rfl) gN rfl) (pa_cons (pv 0) (pa_cons (pv 7) pa_nil)))) (pv 1) (nomark _)))) pa_nil)))))))))))), ?_⟩
    refine q_asg (v := .int (g.length : Int)) (ev_is (ev_lenR (er_var rfl (sq_of ha))) (by rw [ints_len])) fun H1 e1 => ?_
    refine q_asgL (xs := (seats g.length).map V.int) (el_is (el_rg (n := (g.length : Int)) (ev_var rfl) (by omega) (by omega)) (rg_ints g.length)) fun po H2 hpo e2 h2 => ?_
    have sl := seats_len g.length
    have lcat : ∀ {σ : L2.St} {H' : Hp} {v : V} {te : TE}, H' po = some (.lst ((seats g.length).map V.int)) → σ[4]? = some (some (V.ref po)) → Ev te σ H' v → EvL (tOp rCat (tVar 4) (tLst (tCons te tNil))) σ H' ((seats g.length).map V.int ++ [v]) := fun h h' hv => el_cat (es_var h' h) (es_new (el_lst (ea_cons hv ea_nil) (by show 1 ≤ 100000; decide))) (by rw [ints_len]; show (seats g.length).length + 1 ≤ 100000; omega)
    have lrep : ∀ {σ : L2.St} {H' : Hp} {v : V} {te : TE}, σ[3]? = some (some (V.int (g.length : Int))) → Ev te σ H' v → EvL (tOp rRep (tLst (tCons te tNil)) (tOp (rI0 fun i j => .int (i + j)) (tVar 3) (tC (.int 1)))) σ H' (List.replicate (g.length + 1) v) := fun h hv => el_is (el_rep (x := _) (k := (g.length : Int) + 1) (es_new (el_lst (ea_cons hv ea_nil) (by show 1 ≤ 100000; decide))) (ev_I0 (ev_var h) ev_c) (by omega) (by omega)) (by
      have en : ((g.length : Int) + 1).toNat = g.length + 1 := by omega
      rw [en])
    have T : ∀ {o : Option (List V)}, (fun _ : Option (List V) => True) o := trivial
    refine q_asgG (G := GT K fun _ => True) (egl_lst gt_per (egs_cons gt_per (eg_v ev_c fun _ _ => ⟨_, th_non, trivial⟩) (egs_cons gt_per (eg_u (eu_tuple (er_var rfl (sq_of h2))) fun p H2 _ h => ⟨_, th_tup h, trivial⟩) (egs_cons gt_per (eg_v ev_c fun _ _ => ⟨_, th_str, trivial⟩) (egs_cons gt_per (eg_d fun p H2 _ h => ⟨_, th_dK h, trivial⟩)
      (egs_cons gt_per (eg_v ev_c fun _ _ => ⟨_, th_int, trivial⟩) (egs_cons gt_per (eg_th (lcat h2 rfl (ev_var rfl)) (sti_app (sti_ints _) (sti_one fun _ => itm_int)) (by rw [List.length_append, ints_len]; show (seats g.length).length + 1 ≤ 1000; omega) trivial)
      (egs_cons gt_per (eg_th (lcat h2 rfl ev_c) (sti_app (sti_ints _) (sti_one fun _ => itm_int)) (by rw [List.length_append, ints_len]; show (seats g.length).length + 1 ≤ 1000; omega) trivial) (egs_cons gt_per (eg_th (lrep rfl ev_c) (sti_rep (fun _ => itm_non) _) (by rw [List.length_replicate]; omega) trivial) egs_nil)))))))) (by decide)) fun pw us H3 hpw e3 h3 g3 l3 => ?_
    refine q_appG hpw e3 h3 (ev_var rfl) (lrep rfl (ev_I0 (ev_var rfl) (ev_var rfl))) (by omega) fun pl H4 hpl e4 x4 h4 n4 h4' => ?_
    have g4 : ∀ u ∈ us ++ [V.ref pl], GT K (fun _ => True) (hid pw H4) u := fun u hu => by
      rcases List.mem_append.mp hu with hu | hu
      · exact gt_per _ _ _ x4 (g3 u hu)
      · rw [List.mem_singleton.mp hu]
        exact ⟨_, .lst (by rw [hid_at n4]; exact h4') (fun x hx => sti_rep (fun _ => itm_int) _ x hx _) (by rw [List.length_replicate]; omega), trivial⟩
    have l4 : (us ++ [V.ref pl]).length ≤ 9 := by rw [List.length_append, l3]; exact Nat.le_refl _
    generalize us ++ [V.ref pl] = us4 at h4 g4 l4
    have e02 := e1.trans e2
    have dl1 : ((seats g.length).drop 1).length ≤ g.length := by rw [List.length_drop, sl]; omega
    have dl2 : (seats g.length).dropLast.length ≤ g.length := by rw [List.length_dropLast, sl]; omega
    have s1 : ∀ {σ : L2.St} {H' : Hp}, Ex H2 H' → σ[4]? = some (some (V.ref po)) → EvL (tSl (rSlL K) (tVar 4) (tPart (tC (.int 1))) tNoPart) σ H' (((seats g.length).drop 1).map V.int) := fun e h' => el_is (el_sli (er_var h' (sq_of (e _ _ h2))) (eo_some ev_c) eo_none) (cut_drop _ 1)
    have s2 : ∀ {σ : L2.St} {H' : Hp}, Ex H2 H' → σ[4]? = some (some (V.ref po)) → EvL (tSl (rSlL K) (tVar 4) tNoPart (tPart (tUn (rU fun i => .int (-i)) (tC (.int 1))))) σ H' ((seats g.length).dropLast.map V.int) := fun e h' => el_is (el_sli (er_var h' (sq_of (e _ _ h2))) eo_none (eo_some (ev_U_neg ev_c))) (cut_init _)
    have pre : ∀ {σ : L2.St} {H' : Hp} {v : V} {te : TE}, Ex H2 H' → σ[4]? = some (some (V.ref po)) → Ev te σ H' v → Sti K v → EvG (tOp rCat (tLst (tCons te tNil)) (tSl (rSlL K) (tVar 4) (tPart (tC (.int 1))) tNoPart)) σ H' (GT K fun _ => True) := fun e h hv hs => eg_th (el_cat (es_new (el_lst (ea_cons hv ea_nil) (by show 1 ≤ 100000; decide))) (es_new (s1 e h)) (by rw [ints_len]; show 1 + _ ≤ 100000; omega)) (sti_app (sti_one hs) (sti_ints _)) (by rw [List.length_append, ints_len]; show 1 + _ ≤ 1000; omega) trivial
    have suf : ∀ {σ : L2.St} {H' : Hp} {v : V} {te : TE}, Ex H2 H' → σ[4]? = some (some (V.ref po)) → Ev te σ H' v → Sti K v → EvG (tOp rCat (tSl (rSlL K) (tVar 4) tNoPart (tPart (tUn (rU fun i => .int (-i)) (tC (.int 1))))) (tLst (tCons te tNil))) σ H' (GT K fun _ => True) := fun e h hv hs => eg_th (el_cat (es_new (s2 e h)) (es_new (el_lst (ea_cons hv ea_nil) (by show 1 ≤ 100000; decide))) (by rw [ints_len]; show _ + 1 ≤ 100000; omega)) (sti_app (sti_ints _) (sti_one hs)) (by rw [List.length_append, ints_len]; show _ + 1 ≤ 1000; omega) trivial
    refine q_cut (M := fun σ' H' => ∃ pw us, σ' = [some (.ref a), some (.ref pd), some (.int far), some (.int (g.length : Int)), some (.ref po), some (.ref pw), none, none, none] ∧ Ex H2 H' ∧ H2 pw = none ∧ H' pw = some (.lst us) ∧ (∀ u ∈ us, GT K (fun _ => True) (hid pw H') u) ∧ us.length ≤ 17) ?_ ?_
    · refine s_when (b := decide ((g.length : Int) > 0)) (et_test (ev_I0 (ev_var rfl) ev_c)) (fun hb H5 e5 => ?_) fun hb H5 e5 => ⟨pw, us4, rfl, e4.trans e5, hpw, e5 _ _ h4, fun u hu => gt_per _ _ _ (hid_ex e5) (g4 u hu), by omega⟩
      have e45 := e4.trans e5
      refine q_asgG (egl_cat gt_per (ev_var rfl) (e5 _ _ h4) (fun u hu => gt_per _ _ _ (hid_ex e5) (g4 u hu)) (egl_lst gt_per (egs_cons gt_per (eg_th (s1 e45 rfl) (sti_ints _) (by rw [ints_len]; omega) trivial) (egs_cons gt_per (eg_th (s2 e45 rfl) (sti_ints _) (by rw [ints_len]; omega) trivial) (egs_cons gt_per (pre e45 rfl (ev_U_neg ev_c) fun _ => itm_int) (egs_cons gt_per (suf e45 rfl (ev_var rfl) fun _ => itm_int)
        (egs_cons gt_per (suf e45 rfl ev_c fun _ => itm_str) (egs_cons gt_per (eg_v (ev_var rfl) fun H6 x => ⟨_, th_ints (x _ _ ((e02.trans e45) _ _ ha)) (by omega), trivial⟩) egs_nil)))))) (by decide)) (by omega)) fun pw6 us6 H6 hpw6 e6 h6 g6 l6 => ?_
      have e46 := e45.trans e6
      refine s_asgG (egl_cat gt_per (ev_var rfl) h6 g6 (egl_lst gt_per (egs_cons gt_per (pre e46 rfl ev_c fun _ => itm_bl) (egs_cons gt_per (suf e46 rfl ev_c fun _ => itm_non) egs_nil)) (by decide)) (by omega)) fun pw7 us7 H7 hpw7 e7 h7 g7 l7 => ?_
      exact ⟨pw7, us7, rfl, e46.trans e7, fresh_back e46 hpw7, h7, g7, by omega⟩
    clear h4 g4 l4 hpw h3 g3 l3 e3 e4 x4 n4 hpl h4'
    rintro σ' H4 ⟨pw, us4, rfl, e4, hpw, h4, g4, l4⟩
    refine q_cut (M := fun σ' H' => ∃ pw us, σ' = [some (.ref a), some (.ref pd), some (.int far), some (.int (g.length : Int)), some (.ref po), some (.ref pw), none, none, none] ∧ Ex H2 H' ∧ H2 pw = none ∧ H' pw = some (.lst us) ∧ (∀ u ∈ us, GT K (fun _ => True) (hid pw H') u) ∧ us.length ≤ 19) ?_ ?_
    · refine s_when (b := decide ((g.length : Int) > 1)) (et_test (ev_I0 (ev_var rfl) ev_c)) (fun hb H5 e5 => ?_) fun hb H5 e5 => ⟨pw, us4, rfl, e4.trans e5, hpw, e5 _ _ h4, fun u hu => gt_per _ _ _ (hid_ex e5) (g4 u hu), by omega⟩
      have h1 : 1 < g.length := by have := of_decide_eq_true hb; omega
      have e45 := e4.trans e5
      refine s_asgG (egl_cat gt_per (ev_var rfl) (e5 _ _ h4) (fun u hu => gt_per _ _ _ (hid_ex e5) (g4 u hu)) (egl_lst gt_per (egs_cons gt_per (pre e45 rfl (v := .int (cf (seats g.length) 1)) (ev_ixR (er_var rfl (sq_of (e45 _ _ h2))) ev_c (at_int (j := 1) rfl (cf_get (by omega)))) fun _ => itm_int)
        (egs_cons gt_per (eg_th (el_cat (es_new (s2 e45 rfl)) (es_new (el_is (el_sli (er_var rfl (sq_of (e45 _ _ h2))) eo_none (eo_some ev_c)) (cut_take _ 1))) (by rw [ints_len, ints_len, List.length_take]; omega)) (sti_app (sti_ints _) (sti_ints _)) (by rw [List.length_append, ints_len, ints_len, List.length_take]; omega) trivial) egs_nil)) (by decide)) (by omega)) fun pw7 us7 H7 hpw7 e7 h7 g7 l7 => ?_
      exact ⟨pw7, us7, rfl, e45.trans e7, fresh_back e45 hpw7, h7, g7, by omega⟩
    clear h4 g4 l4 hpw e4
    rintro σ' H4 ⟨pw, us4, rfl, e4, hpw, h4, g4, l4⟩
    refine q_forR3 (n := g.length) (by omega) (ea_cons ev_c (ea_cons (ev_var rfl) (ea_cons (ev_I0 ev_c (ev_I (ev_var rfl) ev_c ⟨by decide, by decide⟩)) ea_nil))) (fun i σ' H' => (∃ v6, σ' = [some (.ref a), some (.ref pd), some (.int far), some (.int (g.length : Int)), some (.ref po), some (.ref pw), v6, none, none]) ∧ Ex H2 H' ∧ ∃ us, H' pw = some (.lst us) ∧ (∀ u ∈ us, GT K (fun _ => True) (hid pw H') u) ∧ (i ≤ 63 → us.length ≤ 19 + i) ∧ us.length ≤ 100)
      (fun H5 e5 => ⟨⟨_, rfl⟩, e4.trans e5, us4, e5 _ _ h4, fun u hu => gt_per _ _ _ (hid_ex e5) (g4 u hu), fun _ => by omega, by omega⟩) ?_ ?_
    · rintro i x σ' H5 hi hx ⟨⟨v6, rfl⟩, e5, us, h5, g5, l5, _⟩
      have l5' := l5 (by omega)
      have e05 := e02.trans e5
      have ixg : ∀ {σ : L2.St} {H' : Hp}, Ex H5 H' → σ[0]? = some (some (V.ref a)) → σ[6]? = some (some (V.int (x : Int))) → Ev (tOp (rIxL K) (tVar 0) (tVar 6)) σ H' (.int (cf g x)) := fun e h h' => ev_ixR (er_var h (sq_of (e _ _ (e05 _ _ ha)))) (ev_var h') (at_int rfl (cf_get hx))
      refine s_when (b := decide (cf g x ≥ 0)) (et_test (ev_I0 (ixg (Ex.refl _) rfl rfl) ev_c)) (fun hb H6 e6 => ?_) fun hb H6 e6 => ⟨⟨_, rfl⟩, e5.trans e6, us, e6 _ _ h5, fun u hu => gt_per _ _ _ (hid_ex e6) (g5 u hu), fun _ => by omega, by omega⟩
      have fl := seats_out (n := g.length) (t := cf g x)
      have fl2 := List.length_filter_le (fun s => decide (s ≠ cf g x)) (seats g.length)
      refine q_appG hpw (e5.trans e6) (e6 _ _ h5) (ev_var rfl) (ys := ([cf g x] ++ (seats g.length).filter fun s => decide (s ≠ cf g x)).map V.int) (el_is (el_cat (xs := [V.int (cf g x)]) (es_new (el_lst (ea_cons (ixg e6 rfl rfl) ea_nil) (by show 1 ≤ 100000; decide))) (es_new (el_lcI (fun s => decide (s ≠ cf g x)) (fun s => V.int s) (er_var rfl (sq_of ((e5.trans e6) _ _ h2))) (by omega) (fun _ => rfl) (fun n H7 _ e7 => et_is (et_test (ev_neI (ev_var rfl) (ixg (e6.trans e7) rfl rfl))) (by simp)) fun n H7 _ _ e7 => ev_var rfl)) (by rw [ints_len]; show 1 + _ ≤ 100000; omega)) (by rw [List.map_append]; rfl)) (by omega) fun pl H7 hpl e7 x7 h7 n7 h7' => ?_
      have ll : ([cf g x] ++ (seats g.length).filter fun s => decide (s ≠ cf g x)).length ≤ 64 ∧ x < ([cf g x] ++ (seats g.length).filter fun s => decide (s ≠ cf g x)).length := by
        rw [List.length_append]
        show 1 + _ ≤ 64 ∧ x < 1 + _
        omega
      generalize ([cf g x] ++ (seats g.length).filter fun s => decide (s ≠ cf g x)) = L at h7' ll
      obtain ⟨ll1, ll2⟩ := ll
      have wlast : ∀ G, Bt pl H7 G → Ev (tOp (rIxL K) (tVar 5) (tUn (rU fun i => .int (-i)) (tC (.int 1)))) [some (.ref a), some (.ref pd), some (.int far), some (.int (g.length : Int)), some (.ref po), some (.ref pw), some (.int (x : Int)), none, none] G (.ref pl) := fun G b => ev_ixR (er_var rfl (sq_of (b _ _ n7.symm h7))) (ev_U_neg ev_c) (atI_last _ _)
      have it : ∀ {te : TE} {j : Nat}, Ev te [some (.ref a), some (.ref pd), some (.int far), some (.int (g.length : Int)), some (.ref po), some (.ref pw), some (.int (x : Int)), none, none] H7 (.int (j : Int)) → j < L.length → Ev (tOp (rIxL K) (tOp (rIxL K) (tVar 5) (tUn (rU fun i => .int (-i)) (tC (.int 1)))) te) [some (.ref a), some (.ref pd), some (.int far), some (.int (g.length : Int)), some (.ref po), some (.ref pw), some (.int (x : Int)), none, none] H7 (.int (cf L j)) := fun h hj => ev_ixR (er_at (wlast H7 fun q o _ h => h) (sq_of h7')) h (at_int rfl (cf_get hj))
      have fr7 : H2 pl = none := fresh_back (e5.trans e6) hpl
      refine s_swapW (i := 0) (j := x) fr7 e7 h7' (it (j := x) (ev_var rfl) ll2) (it (j := 0) ev_c (by omega)) wlast (fun G => ev_c) (fun G => ev_var rfl) (by omega) ll2 fun H8 e8 h8 b8 => ?_
      refine ⟨⟨_, rfl⟩, e8, us ++ [.ref pl], b8 _ _ n7.symm h7, fun u hu => ?_, fun _ => by rw [List.length_append]; show us.length + 1 ≤ _; omega, by rw [List.length_append]; show us.length + 1 ≤ _; omega⟩
      rcases List.mem_append.mp hu with hu | hu
      · refine gt_per (hid pw H5) _ _ (fun q o hq => ?_) (g5 u hu)
        have nq : q ≠ pw := fun z => by rw [z] at hq; unfold hid at hq; rw [if_pos rfl] at hq; cases hq
        rw [hid_at nq] at hq ⊢
        refine b8 _ _ (ne_of_none (e6 _ _ hq) hpl) ?_
        have z := x7 q o (by rw [hid_at nq]; exact e6 _ _ hq)
        rw [hid_at nq] at z
        exact z
      · rw [List.mem_singleton.mp hu]
        exact ⟨_, th_ints (by rw [hid_at n7]; exact h8) (by rw [List.length_set, List.length_set]; omega), trivial⟩
    rintro i σ' H5 ⟨⟨v6, rfl⟩, e5, us, h5, g5, _, l5⟩
    have e05 := e02.trans e5
    have g5' : ∀ u ∈ us, ∃ o, Th K H5 u o := fun u hu => by
      obtain ⟨o, h, _⟩ := g5 u hu
      exact ⟨o, h.ex hid_sub⟩
    obtain ⟨f, hf⟩ : ∃ f : V → Option (List V), ∀ u ∈ us, Th K H5 u (f u) := by
      classical
      refine ⟨fun u => if h : ∃ o, Th K H5 u o then Classical.choose h else none, fun u hu => ?_⟩
      have h := g5' u hu
      show Th K H5 u (if h : ∃ o, Th K H5 u o then Classical.choose h else none)
      rw [dif_pos h]
      exact Classical.choose_spec h
    refine q_asgL (xs := us.filter fun u => !(f u).isSome || !offO g (f u)) (el_is (el_lcV (fun u => !(f u).isSome || !offO g (f u)) (fun u => u) (er_var rfl (sq_of h5)) (by omega) (fun _ => rfl) (fun u H6 hu e6 => et_or (et_not (et_B (ev_isL (ev_var rfl) ((hf u hu).ex e6)))) fun _ => et_not (et_B (call_offX (es_var rfl ((e05.trans e6) _ _ ha)) (ev_var rfl) (by omega) ((hf u hu).ex e6)))) fun u H6 _ _ e6 => ev_var rfl) (List.map_id' _)) fun pv H6 hpv e6 h6 => ?_
    have e06 := e05.trans e6
    have hw : ∀ u ∈ us.filter (fun u => !(f u).isSome || !offO g (f u)), ∃ o, Th K H6 u o ∧ offO g o = false := fun u hu => by
      obtain ⟨h1, h2⟩ := List.mem_filter.mp hu
      refine ⟨f u, (hf u h1).ex e6, ?_⟩
      cases e : f u with
      | none => rfl
      | some xs =>
        rw [e] at h2
        simpa using h2
    have lw := List.length_filter_le (fun u => !(f u).isSome || !offO g (f u)) us
    generalize us.filter (fun u => !(f u).isSome || !offO g (f u)) = ws at h6 hw lw
    refine s_ret (ev_is (ev_allR (bs := ws.map fun _ => true) (er_of (es_new (el_is (el_lcV (fun _ => true) (fun _ => V.bl true) (er_var rfl (sq_of h6)) (by omega) (fun _ => rfl) (fun _ _ _ _ => et_yes) fun u H7 hu _ e7 => ?_) ?_)))) ?_) fun H7 e7 => q H7 (e06.trans e7)
    · obtain ⟨o, th, off⟩ := hw u hu
      have e07 := e06.trans e7
      refine ev_eqBs (bs := [false, false, true, true]) (er_of (es_new (el_told (x := .ref a) (y := u) ev_c (ev_var rfl) (ev_var rfl) hS hE fun H8 e8 Q' E' k => ?_))) (er_of (es_var rfl (e07 _ _ hd)))
      refine ⟨.ref a, u, _, o, rfl, th_ints ((e07.trans e8) _ _ ha) (by omega), (th.ex e7).ex e8, fun z => ?_, fun _ => ⟨g, ok, rfl, off, k⟩⟩
      rw [bad_ok ok] at z
      exact nomatch z
    · rw [filter_yes, List.map_map]
      rfl
    · rw [List.all_map]
      simp
end


section
variable {P : Program} {w : World} {K : PySem.W.Frag} {mg : Str → Option Value} {base : Heap}
/-! ### law -/
theorem cts0 (g : List Int) : (cts g)[0]? = some (cnt (seats g.length) g) := by
  unfold cts cs
  exact lst_at (by omega)
theorem bad_one {n : Int} (h : n < -1 ∨ 1 ≤ n) : badT (some [V.int n]) = true := by
  show (!((decide (-1 ≤ n) && decide (n < ((1 : Nat) : Int))) && true)) = true
  rcases h with h | h
  · rw [decide_eq_false (by omega : ¬ -1 ≤ n)]; rfl
  · rw [decide_eq_false (by omega : ¬ n < ((1 : Nat) : Int))]; simp
theorem bad_mid {xs ys : List V} {v : V} (h : okV (xs ++ [v] ++ ys).length v = false) : badT (some (xs ++ [v] ++ ys)) = true := by
  show (!((xs ++ [v] ++ ys).all (okV (xs ++ [v] ++ ys).length))) = true
  rw [Bool.not_eq_true', List.all_eq_false]
  exact ⟨v, List.mem_append_left _ (List.mem_append_right _ (List.mem_singleton.mpr rfl)), by rw [h]; exact Bool.false_ne_true⟩
theorem eg_ll {σ : L2.St} {H : Hp} {te : TE} {xs : List V} (h : EvL te σ H xs) : EvG (tLst (tCons te tNil)) σ H (GT K fun o => badT o = true) := fun H1 e Q q =>
  h H1 e _ fun p H2 hp e2 h2 => ⟨by show 1 ≤ sizeLine; decide, fun l hl => q _ _ (e2.trans (Ex.new hl)) ⟨_, .lst upd_same (fun x hx => by
    rw [List.mem_singleton.mp hx]
    exact itm_lst (Ex.new hl _ _ h2)) (by show 1 ≤ 1000; decide), rfl⟩⟩
def dueB (i : Nat) : List Bool := [decide ((i : Int) = 0), decide ((i : Int) = 1), decide ((i : Int) = 2), true]
theorem ok_bad {g : List Int} (ok : Ok g) {Q : Prop} (z : badT (some (g.map V.int)) = true) : Q := by
  rw [bad_ok ok] at z
  exact nomatch z
theorem el_countsX {σ : L2.St} {H : Hp} {te : TE} {g : List Int} {C : Addr} {E : XK} (h : EvS te σ H (g.map V.int)) (ok : Ok g) : EvL (tCall (spCountsX K C) [] E (tCons te tNil)) σ H ((cts g).map V.int) :=
  el_callB (eb_s h eb_nil) fun vs H1 e ⟨p, r, e1, hp, e2⟩ Q k => by
    subst e2
    exact ⟨_, _, e1, th_ints hp (by have := ok.2; omega), ok_bad ok, fun _ => ⟨g, ok, rfl, k⟩⟩
theorem el_seatX {σ : L2.St} {H : Hp} {ta tb : TE} {g : List Int} {n : Int} {C C' : Addr} {E : XK} (h : EvS ta σ H (g.map V.int)) (h2 : Ev tb σ H (.int n)) (ok : Ok g) (n0 : 0 ≤ n) (n1 : n < cnt (seats g.length) g) : EvL (tCall (spSeatX K C C') [] E (tCons ta (tCons tb tNil))) σ H ((seatF (seats g.length) g n).map V.int) :=
  el_callB (eb_s h (eb_v h2 eb_nil)) fun vs H1 e ⟨p, r, e1, hp, r', e2, e3⟩ Q k => by
    subst e3 e2
    refine ⟨_, _, _, e1, th_ints hp (by have := ok.2; omega), itm_int, ok_bad ok, fun _ => ⟨g, ok, rfl, fun z => ?_, fun m em m0 m1 => ?_⟩⟩
    · have z : (decide (0 ≤ n) && decide (n < cnt (seats g.length) g)) = false := z
      rw [decide_eq_true n0, decide_eq_true n1] at z
      exact nomatch z
    · injection em with em
      subst em
      exact k
theorem sc_law : FnScope ["_law_script", "_law_far_here", "_law_due", "_law_k", "_law_shuns_here", "_law_kept", "_law_size", "_law_bad", "_law_at", "_law_door", "_law_whole_here", "_law_number", "_law_thing"] ["_law_script"] (defScope (topS 38)) :=
  ⟨rfl, rfl, rfl, by decide +kernel, rfl, by decide +kernel, by decide +kernel⟩

def spLaw (K : PySem.W.Frag) : Sp := fun vs H Q _ => ∃ (a : Addr) (ns : List Int), vs = [.ref a] ∧ SqL K H a (ns.map V.int) ∧ ns.length ≤ 63 ∧ RetV (.bl true) H Q
def GN (K : PySem.W.Frag) (W : Int) : Hp → V → Prop := fun H x => Itm K H x ∧ inR W x = false
theorem gn_per {W : Int} : Per (GN K W) := fun _ _ _ e h => ⟨h.1.ex e, h.2⟩
theorem ok_law {f f1 f2 f3 f4 f5 f6 f7 f8 fW fS CS CN CE : Addr} {fd fd1 fd2 fd3 fd4 fd5 fd6 fd7 fd8 : FuncData} {S : Addr → List V → Prop} (F : Fun K "law" "law" (topS 38) f fd) (B : Bi mg) (D_law_cell_at : Df P w K mg base CX0 1 "_law_cell_at" f1 fd1 ["_law_script", "_law_k"] (spCell K))
    (D_law_shuns : Df P w K mg base CX0 2 "_law_shuns" f2 fd2 ["_law_script"] (spShuns K)) (D_law_counts : Df P w K mg base CX0 1 "_law_counts" f3 fd3 ["_law_shuns_here"] spLawCounts) (D_told1 : Df P w K mg base CX0 7 "_law_told" f4 fd4 ["_law_ask", "_law_one", "_law_other"] (spTold K S CE fW (spDoor K CS)))
    (D_told2 : Df P w K mg base CX0 7 "_law_told" f5 fd5 ["_law_ask", "_law_one", "_law_other"] (spTold K S CE fS (spSeatX K CS CN))) (D_law_seatings_right : Df P w K mg base CX0 8 "_law_seatings_right" f6 fd6 ["_law_shuns_here", "_law_due", "_law_far_here"] (spRight K))
    (D_counts : Df P w K mg base (L2.CX P w) 3 "counts" f7 fd7 ["shuns"] (spCountsX K CS)) (D_seating_of : Df P w K mg base (L2.CX P w) 5 "seating_of" f8 fd8 ["shuns", "number"] (spSeatX K CS CN)) (gW : mg "_law_with_shuns" = some (.ref fW)) (gS : mg "seating_of" = some (.ref fS))
    (hS1 : S CS ([true, false, false, true].map V.bl)) (hE1 : PySem.W.exmOne K (.ref CS) (.ref CE) = some true) (hS2 : S CN ([false, true, false, true].map V.bl)) (hE2 : PySem.W.exmOne K (.ref CN) (.ref CE) = some true) :
    FnOk P w K mg base CX0 9 f fd ["_law_script"] (spLaw K) := by
  refine F.ok sc_law (fun vs H Q E h => ?_) (fun cdv A outer s H vs Q E hr h => ?_)
  · obtain ⟨a, ns, rfl, _⟩ := h
    rfl
  · obtain ⟨a, ns, rfl, ha, hz, q⟩ := h
    have okg := shn_Ok hz
    refine ⟨_, (pss_cons (ps_set (i := 1) sc_law.nd rfl (Or.inl rfl) (pe_op op_mod (pe_call D_law_cell_at.ok (hr.mono (by decide)) (by rfl) D_law_cell_at.g D_law_cell_at.kp D_law_cell_at.b .nil pass0 (pa_cons (pv 0) (pa_cons pe_int pa_nil))) (pe_op op_pow pe_int pe_int)))
 (pss_cons (ps_set (i := 2) sc_law.nd rfl (Or.inr rfl) (pe_lst pa_nil))
 (pss_cons (ps_for PassesOwn.never rfl (pi_range1 (by rfl) B.range (pa_cons pe_int pa_nil)) (pg_name (i := 3) sc_law.nd rfl (Or.inl rfl))
 (pss_one (ps_expr (kBm K PySem.F.plainAttrs_list PySem.F.slot_list_append PySem.F.type_list_append mt_append (pv 2) (pa_cons (pe_lst (pa_cons (pe_cmpR op_eq (pv 3) pe_int (nomark _)) (pa_cons (pe_cmpR op_eq (pv 3) pe_int (nomark _)) (pa_cons (pe_cmpR op_eq (pv 3) pe_int (nomark _)) (pa_cons pe_bl pa_nil))))) pa_nil)))))
 (pss_cons (ps_set (i := 4) sc_law.nd rfl (Or.inl rfl) (pe_call D_law_shuns.ok (hr.mono (by decide)) (by rfl) D_law_shuns.g D_law_shuns.kp D_law_shuns.b .nil pass0 (pa_cons (pv 0) pa_nil)))
 (pss_cons (ps_par (i := 5) (j := 6) (by rfl) sc_law.nd rfl rfl (by decide) rfl rfl (pa_cons (pe_callTy (kList K) (by rfl) B.list (by decide +kernel) (pa_cons (pv 4) pa_nil)) (pa_cons (pe_callB (kLen K) (by rfl) B.len PySem.boot_len (pa_cons (pv 4) pa_nil)) pa_nil)) (by rfl))
 (pss_cons (ps_set (i := 7) sc_law.nd rfl (Or.inl rfl) (pe_lst (pa_cons pe_non (pa_cons (pe_tup pa_nil) (pa_cons (pe_tup (pa_cons pe_int pa_nil)) (pa_cons pe_str (pa_cons pe_dnewK (pa_cons pe_int (pa_cons (pe_lst (pa_cons pe_non pa_nil)) (pa_cons (pe_lst (pa_cons pe_str pa_nil)) (pa_cons (pe_lst (pa_cons pe_bl pa_nil)) (pa_cons (pe_lst (pa_cons pe_int pa_nil)) (pa_cons (pe_lst (pa_cons (pe_un un_neg pe_int) pa_nil)) (pa_cons (pe_lst (pa_cons (pe_op op_sub (pe_un un_neg pe_int) (pv 1)) pa_nil)) (pa_cons (pe_lst (pa_cons (pe_op op_add pe_int (pv 1)) pa_nil)) (pa_cons (pe_lst (pa_cons (pe_lst (pa_cons pe_int pa_nil)) pa_nil)) (pa_cons (pe_lst (pa_cons pe_int (pa_cons pe_int pa_nil))) pa_nil)))))))))))))))))
 (pss_cons (ps_expr (kBm K PySem.F.plainAttrs_list PySem.F.slot_list_append PySem.F.type_list_append mt_append (pv 7) (pa_cons (pe_lst (pa_cons pe_int (pa_cons pe_int (pa_cons pe_int pa_nil)))) pa_nil)))
 (pss_cons (ps_for PassesOwn.never rfl (pi_range3 (by rfl) B.range (pa_cons pe_int (pa_cons (pv 6) (pa_cons (pe_op op_add pe_int (pe_op op_fdiv (pv 6) pe_int)) pa_nil)))) (pg_name (i := 8) sc_law.nd rfl (Or.inl rfl))
 (pss_one (ps_expr (kBm K PySem.F.plainAttrs_list PySem.F.slot_list_append PySem.F.type_list_append mt_append (pv 7) (pa_cons (pe_op op_cat (pe_op op_cat (pe_slice (kSl K) (pv 4) po_none (po_some (pv 8))) (pe_lst (pa_cons (pe_ix (kIxT K) (pe_tup (pa_cons pe_non (pa_cons pe_str (pa_cons pe_bl (pa_cons (pv 6) (pa_cons (pe_un un_neg pe_int) (pa_cons (pe_op op_add (pv 6) (pv 1)) (pa_cons (pe_op op_sub (pe_un un_neg pe_int) (pv 1)) pa_nil)))))))) (pe_op op_mod (pv 8) pe_int) (fun _ _ => rfl)) pa_nil))) (pe_slice (kSl K) (pv 4) (po_some (pe_op op_add (pv 8) pe_int)) po_none)) pa_nil)))))
 (pss_cons (ps_for PassesOwn.never rfl (pi_range1 (by rfl) B.range (pa_cons pe_int pa_nil)) (pg_name (i := 9) sc_law.nd rfl (Or.inr rfl))
 (pss_one (ps_if (pt_not (pt_val (pe_callB (kAll K) (by rfl) B.all (by decide +kernel) (pa_cons (pe_lc (own := [("_law_thing", 12)]) (by rfl) sc_law.nd (kpList K (pv 7)) (blkOk_by (own := [("_law_thing", 12)]) (N := ["_law_script", "_law_far_here", "_law_due", "_law_k", "_law_shuns_here", "_law_kept", "_law_size", "_law_bad", "_law_at", "_law_door", "_law_whole_here", "_law_number", "_law_thing"]) (sc := defScope (topS 38)) (by decide +kernel)) (fun _ _ _ _ _ => (pg_name (i := 12) sc_law.nd rfl (Or.inl rfl))) (fun _ _ _ _ _ => pts_nil) (fun _ _ _ _ _ => (pe_cmpR (kEq K hr.units) (pe_call D_told1.ok (hr.mono (by decide)) (by rfl) D_told1.g D_told1.kp D_told1.b .nil pass0 (pa_cons (pe_glob (v := .ref fW) (by rfl) gW rfl) (pa_cons (pv 9) (pa_cons (pv 12) pa_nil)))) (pe_ix (kIx K) (pv 2) pe_int (fun _ _ => rfl)) (nomark _)))) pa_nil))))
 (pss_one (ps_ret pe_bl))
 pss_nil)))
 (pss_cons (ps_set (i := 10) sc_law.nd rfl (Or.inl rfl) (pe_ix (kIx K) (pe_call D_law_counts.ok (hr.mono (by decide)) (by rfl) D_law_counts.g D_law_counts.kp D_law_counts.b .nil pass0 (pa_cons (pv 4) pa_nil)) pe_int (fun _ _ => rfl)))
 (pss_cons (ps_for PassesOwn.never rfl (kpTup K (pe_tup (pa_cons pe_non (pa_cons pe_str (pa_cons pe_bl (pa_cons (pe_lst (pa_cons pe_int pa_nil)) (pa_cons (pe_un un_neg pe_int) (pa_cons (pe_op op_sub (pe_un un_neg pe_int) (pv 1)) (pa_cons (pv 10) (pa_cons (pe_op op_add (pv 10) (pv 1)) (pa_cons (pe_tup (pa_cons pe_int pa_nil)) pa_nil))))))))))) (pg_name (i := 11) sc_law.nd rfl (Or.inl rfl))
 (pss_one (ps_if (pt_cmpR (kNe K hr.units) (pe_call D_told2.ok (hr.mono (by decide)) (by rfl) D_told2.g D_told2.kp D_told2.b .nil pass0 (pa_cons (pe_glob (v := .ref fS) (by rfl) gS rfl) (pa_cons (pv 4) (pa_cons (pv 11) pa_nil)))) (pe_ix (kIx K) (pv 2) pe_int (fun _ _ => rfl)) (nomark _))
 (pss_one (ps_ret pe_bl))
 pss_nil)))
 (pss_cons (ps_if (pt_not (pt_val (pe_call D_law_seatings_right.ok (hr.mono (by decide)) (by rfl) D_law_seatings_right.g D_law_seatings_right.kp D_law_seatings_right.b .nil pass0 (pa_cons (pv 4) (pa_cons (pe_ix (kIx K) (pv 2) pe_int (fun _ _ => rfl)) (pa_cons (pv 1) pa_nil))))))
 (pss_one (ps_ret pe_bl))
 pss_nil)
 (pss_one (ps_ret (pe_and (pe_cmpR (kEq K hr.units) (pv 4) (pv 5) (nomark _)) (pe_and (pe_cmpR (kEq K hr.units) (pe_call D_counts.ok (hr.mono (by decide)) (by rfl) D_counts.g D_counts.kp D_counts.b .nil (passes_call takes0 (fun _ _ _ _ h => h)) (pa_cons (pe_lst (pa_cons pe_int (pa_cons pe_int (pa_cons pe_int pa_nil)))) pa_nil)) (pe_lst (pa_cons pe_int (pa_cons pe_int (pa_cons pe_int (pa_cons pe_int pa_nil))))) (nomark _)) (pe_one (pe_cmpR (kEq K hr.units) (pe_call D_seating_of.ok (hr.mono (by decide)) (by rfl) D_seating_of.g D_seating_of.kp D_seating_of.b .nil (passes_call takes0 (fun _ _ _ _ h => h)) (pa_cons (pe_lst (pa_cons pe_int (pa_cons (pe_un un_neg pe_int) pa_nil))) (pa_cons pe_int pa_nil))) (pe_lst (pa_cons pe_int (pa_cons pe_int pa_nil))) (nomark _))))))))))))))))))), ?_⟩
    refine q_asg (v := .int (cf ns 0 % 1000000)) (ev_is (ev_I (call_cell (k := 0) (er_var rfl ha) ev_c) (ev_I ev_c ev_c ⟨by decide, by decide, by decide⟩) (by decide)) rfl) fun H1 e1 => ?_
    have far0 := Int.emod_nonneg (cf ns 0) (by decide : (1000000 : Int) ≠ 0)
    generalize cf ns 0 % 1000000 = far at far0
    refine q_asgL (xs := []) (el_lst ea_nil (by decide)) fun pd H2 hpd e2 h2 => ?_
    refine q_forR1 (n := 3) (ea_cons ev_c ea_nil) ⟨by decide, by decide⟩ (fun i σ' H' => (∃ v3, σ' = [some (.ref a), some (.int far), some (.ref pd), v3, none, none, none, none, none, none, none, none, none]) ∧ Ex H1 H' ∧ ∃ vs, H' pd = some (.lst vs) ∧ vs.length = i ∧ ∀ j, j < i → ∃ p, vs[j]? = some (.ref p) ∧ hid pd H' p = some (.lst ((dueB j).map V.bl)))
      (fun H3 e3 => ⟨⟨_, rfl⟩, e2.trans e3, [], e3 _ _ h2, rfl, fun j hj => absurd hj (Nat.not_lt_zero _)⟩) ?_ ?_
    · rintro i σ' H3 hi ⟨⟨v3, rfl⟩, e3, vs, h3, l3, d3⟩
      refine s_appG hpd e3 h3 (ev_var rfl) (ys := (dueB i).map V.bl) (el_lst (ea_cons (ev_eqI (ev_var rfl) ev_c) (ea_cons (ev_eqI (ev_var rfl) ev_c) (ea_cons (ev_eqI (ev_var rfl) ev_c) (ea_cons ev_c ea_nil)))) (by show 4 ≤ 100000; decide)) (by omega) fun p H4 hp e4 x4 h4 n4 h4' => ⟨⟨_, rfl⟩, e4, _, h4, by rw [List.length_append, l3]; rfl, fun j hj => ?_⟩
      by_cases c : j = i
      · subst c
        exact ⟨p, by rw [List.getElem?_append_right (by omega), l3, Nat.sub_self]; rfl, by rw [hid_at n4]; exact h4'⟩
      · obtain ⟨p', hp', hh⟩ := d3 j (by omega)
        exact ⟨p', by rw [List.getElem?_append_left (by omega)]; exact hp', x4 _ _ hh⟩
    rintro σ' H3 ⟨⟨v3, rfl⟩, e3, dvs, h3, l3, d3⟩
    have e13 := e1.trans e3
    obtain ⟨p0, i0, d0⟩ := d3 0 (by decide)
    obtain ⟨p1, i1, d1⟩ := d3 1 (by decide)
    obtain ⟨p2, i2, d2⟩ := d3 2 (by decide)
    have d0 := hid_sub _ _ d0
    have d1 := hid_sub _ _ d1
    have d2 := hid_sub _ _ d2
    have due : ∀ {σ : L2.St} {H' : Hp} {j : Nat} {p : Addr} {xs : List V} {te : TE}, Ex H3 H' → σ[2]? = some (some (V.ref pd)) → Ev te σ H' (.int (j : Int)) → dvs[j]? = some (.ref p) → H3 p = some (.lst xs) → EvS (tOp (rIxL K) (tVar 2) te) σ H' xs := fun e h h' hj hp => es_at (ev_ixR (er_var h (sq_of (e _ _ h3))) h' (atI_nat hj)) (e _ _ hp)
    refine q_asgL (call_shuns (er_var rfl (ex_l e13 ha)) hz) fun ps H4 hps e4 h4 => ?_
    generalize shn ns = g at okg h4
    obtain ⟨hg, hgz⟩ := id okg
    refine q_par (eb_n (el_of (er_var rfl (sq_of h4))) (eb_v (ev_is (ev_lenR (er_var rfl (sq_of h4))) (by rw [ints_len])) eb_nil)) ?_ ?_
    · rintro vs H1 ⟨p, r, rfl, _, _, r', rfl, rfl⟩
      rfl
    rintro x y H5 e5 ⟨ph, r, ex, hph, h5, r', ex', ex''⟩
    subst ex''
    cases ex'
    cases ex
    have g5 := e5 _ _ h4
    have e35 := e4.trans e5
    have one : ∀ {σ : L2.St} {H' : Hp} {te : TE} {v : V}, Ev te σ H' v → Sti K v → badT (some [v]) = true → EvG (tLst (tCons te tNil)) σ H' (GT K fun o => badT o = true) := fun h hs hp => eg_th (el_lst (ea_cons h ea_nil) (by show 1 ≤ 100000; decide)) (sti_one hs) (by show 1 ≤ 1000; decide) hp
    refine q_asgG (G := GT K fun o => badT o = true) (egl_lst gt_per (egs_cons gt_per (eg_v ev_c fun _ _ => ⟨_, th_non, rfl⟩) (egs_cons gt_per (eg_u (eu_tup ea_nil (by decide)) fun p H2 _ h => ⟨_, th_tup h, rfl⟩) (egs_cons gt_per (eg_u (eu_tup (ea_cons ev_c ea_nil) (by show 1 ≤ 100000; decide)) fun p H2 _ h => ⟨_, th_tup h, rfl⟩) (egs_cons gt_per (eg_v ev_c fun _ _ => ⟨_, th_str, rfl⟩) (egs_cons gt_per (eg_d fun p H2 _ h => ⟨_, th_dK h, rfl⟩)
      (egs_cons gt_per (eg_v ev_c fun _ _ => ⟨_, th_int, rfl⟩) (egs_cons gt_per (one ev_c (fun _ => itm_non) rfl) (egs_cons gt_per (one ev_c (fun _ => itm_str) rfl) (egs_cons gt_per (one ev_c (fun _ => itm_bl) rfl) (egs_cons gt_per (one ev_c (fun _ => itm_int) rfl) (egs_cons gt_per (one (ev_U_neg ev_c) (fun _ => itm_int) rfl) (egs_cons gt_per (one (ev_I0 (ev_U_neg ev_c) (ev_var rfl)) (fun _ => itm_int) (bad_one (by omega)))
      (egs_cons gt_per (one (ev_I0 ev_c (ev_var rfl)) (fun _ => itm_int) (bad_one (by omega))) (egs_cons gt_per (eg_ll (el_lst (ea_cons ev_c ea_nil) (by show 1 ≤ 100000; decide))) (egs_cons gt_per (eg_th (xs := [.int 0, .int 2]) (el_lst (ea_cons ev_c (ea_cons ev_c ea_nil)) (by show 2 ≤ 100000; decide)) (sti_ints [0, 2]) (by show 2 ≤ 1000; decide) rfl) egs_nil))))))))))))))) (by decide)) fun pb us H6 hpb e6 h6 g6 l6 => ?_
    have e36 := e35.trans e6
    refine q_appG (ys := [0, 1, 3].map V.int) hpb e6 h6 (ev_var rfl) (el_lst (ea_cons ev_c (ea_cons ev_c (ea_cons ev_c ea_nil))) (by show 3 ≤ 100000; decide)) (by omega) fun pl H7 hpl e7 x7 h7 n7 h7' => ?_
    have g7 : ∀ u ∈ us ++ [V.ref pl], GT K (fun o => badT o = true) (hid pb H7) u := fun u hu => by
      rcases List.mem_append.mp hu with hu | hu
      · exact gt_per _ _ _ x7 (g6 u hu)
      · rw [List.mem_singleton.mp hu]
        exact ⟨_, th_ints (g := [0, 1, 3]) (by rw [hid_at n7]; exact h7') (by decide), rfl⟩
    have l7 : (us ++ [V.ref pl]).length ≤ 16 := by rw [List.length_append, l6]; exact Nat.le_refl _
    generalize us ++ [V.ref pl] = us7 at h7 g7 l7
    refine q_forR3 (n := g.length) (by omega) (ea_cons ev_c (ea_cons (ev_var rfl) (ea_cons (ev_I0 ev_c (ev_I (ev_var rfl) ev_c ⟨by decide, by decide⟩)) ea_nil))) (fun i σ' H' => (∃ v8, σ' = [some (.ref a), some (.int far), some (.ref pd), v3, some (.ref ps), some (.ref ph), some (.int (g.length : Int)), some (.ref pb), v8, none, none, none, none]) ∧ Ex H5 H' ∧ ∃ us, H' pb = some (.lst us) ∧ (∀ u ∈ us, GT K (fun o => badT o = true) (hid pb H') u) ∧ (i ≤ 63 → us.length ≤ 16 + i) ∧ us.length ≤ 100)
      (fun H8 e8 => ⟨⟨_, rfl⟩, e7.trans e8, us7, e8 _ _ h7, fun u hu => gt_per _ _ _ (hid_ex e8) (g7 u hu), fun _ => by omega, by omega⟩) ?_ ?_
    · rintro i x σ' H8 hi hx ⟨⟨v8, rfl⟩, e8, us, h8, g8, l8, _⟩
      have l8' := l8 (by omega)
      obtain ⟨v, hv⟩ : ∃ v, [V.non, V.str "1", V.bl true, V.int (g.length : Int), V.int (-2), V.int ((g.length : Int) + far), V.int (-2 - far)][x % 7]? = some v := ⟨_, List.getElem?_eq_getElem (by show x % 7 < 7; omega)⟩
      have vm := List.mem_of_getElem? hv
      have vk : Sti K v ∧ okV g.length v = false := by
        simp only [List.mem_cons, List.not_mem_nil, or_false] at vm
        rcases vm with rfl | rfl | rfl | rfl | rfl | rfl | rfl
        · exact ⟨fun _ => itm_non, rfl⟩
        · exact ⟨fun _ => itm_str, rfl⟩
        · exact ⟨fun _ => itm_bl, rfl⟩
        · exact ⟨fun _ => itm_int, by show (decide (-1 ≤ (g.length : Int)) && decide ((g.length : Int) < (g.length : Int))) = false; rw [decide_eq_false (by omega : ¬ (g.length : Int) < (g.length : Int))]; simp⟩
        · exact ⟨fun _ => itm_int, rfl⟩
        · exact ⟨fun _ => itm_int, by show (decide (-1 ≤ (g.length : Int) + far) && decide ((g.length : Int) + far < (g.length : Int))) = false; rw [decide_eq_false (by omega : ¬ (g.length : Int) + far < (g.length : Int))]; simp⟩
        · exact ⟨fun _ => itm_int, by show (decide (-1 ≤ -2 - far) && decide (-2 - far < (g.length : Int))) = false; rw [decide_eq_false (by omega : ¬ -1 ≤ -2 - far)]; rfl⟩
      have gx := e8 _ _ g5
      have tl : (g.take x).length = x := by rw [List.length_take]; omega
      have dl : (g.drop (x + 1)).length = g.length - (x + 1) := List.length_drop
      refine s_appG hpb e8 h8 (ev_var rfl) (ys := (g.take x).map V.int ++ [v] ++ (g.drop (x + 1)).map V.int) (el_cat (es_new (el_cat (es_new (el_is (el_sli (er_var rfl (sq_of gx)) eo_none (eo_some (ev_var rfl))) (cut_take g x))) (es_new (el_lst (ea_cons (ev_ixU (i := ((x % 7 : Nat) : Int)) (eu_tup (ea_cons ev_c (ea_cons ev_c (ea_cons ev_c (ea_cons (ev_var rfl) (ea_cons (ev_U_neg ev_c) (ea_cons (ev_I0 (ev_var rfl) (ev_var rfl)) (ea_cons (ev_I0 (ev_U_neg ev_c) (ev_var rfl)) ea_nil))))))) (by show 7 ≤ 100000; decide)) (ev_is (ev_I (ev_var rfl) ev_c (by decide)) (congrArg V.int (by omega))) (atI_nat hv)) ea_nil) (by show 1 ≤ 100000; decide))) (by rw [ints_len, tl]; show x + 1 ≤ 100000; omega)))
        (es_new (el_is (el_sli (er_var rfl (sq_of gx)) (eo_some (ev_is (ev_I0 (ev_var rfl) ev_c) (congrArg V.int (Int.natCast_succ x).symm))) eo_none) (cut_drop g (x + 1)))) (by rw [List.length_append, ints_len, ints_len, tl, dl]; show x + 1 + _ ≤ 100000; omega)) (by omega) fun p H9 hp e9 x9 h9 n9 h9' => ?_
      have yl : ((g.take x).map V.int ++ [v] ++ (g.drop (x + 1)).map V.int).length = g.length := by
        rw [List.length_append, List.length_append, ints_len, ints_len, tl, dl]
        show x + 1 + _ = _
        omega
      refine ⟨⟨_, rfl⟩, e9, _, h9, fun u hu => ?_, fun _ => by rw [List.length_append]; show us.length + 1 ≤ _; omega, by rw [List.length_append]; show us.length + 1 ≤ _; omega⟩
      rcases List.mem_append.mp hu with hu | hu
      · exact gt_per _ _ _ x9 (g8 u hu)
      · rw [List.mem_singleton.mp hu]
        exact ⟨_, .lst (by rw [hid_at n9]; exact h9') (fun y hy => sti_app (sti_app (sti_ints _) (sti_one vk.1)) (sti_ints _) y hy _) (by rw [yl]; omega), bad_mid (by rw [yl]; exact vk.2)⟩
    rintro i σ' H8 ⟨⟨v8, rfl⟩, e8, us8, h8, g8, _, l8⟩
    have e38 := e35.trans e8
    refine q_forR1 (n := 4) (ea_cons ev_c ea_nil) ⟨by decide, by decide⟩ (fun i σ' H' => (∃ v9, σ' = [some (.ref a), some (.int far), some (.ref pd), v3, some (.ref ps), some (.ref ph), some (.int (g.length : Int)), some (.ref pb), v8, v9, none, none, none]) ∧ Ex H8 H') (fun H9 e9 => ⟨⟨_, rfl⟩, e9⟩) ?_ ?_
    · rintro d σ' H9 hd ⟨⟨v9, rfl⟩, e9⟩
      refine s_when (b := false) (et_is (et_not (a := true) (et_B (ev_is (ev_allR (bs := us8.map fun _ => true) (er_of (es_new (el_is (el_lcV (fun _ => true) (fun _ => V.bl true) (er_var rfl (sq_of (e9 _ _ h8))) (by omega) (fun _ => rfl) (fun _ _ _ _ => et_yes) fun u HA hu _ eA => ?_) ?_)))) ?_))) rfl) (fun h => nomatch h) fun _ HA eA => ⟨⟨_, rfl⟩, e9.trans eA⟩
      · obtain ⟨o, th, bad⟩ := g8 u hu
        refine ev_eqBs (bs := [true, false, false, true]) (er_of (es_new (el_told (x := .int (d : Int)) (y := u) ev_c (ev_var rfl) (ev_var rfl) hS1 hE1 fun HB eB Q' E' k => ⟨(d : Int), u, o, rfl, ((th.ex hid_sub).ex ((e9.trans eA).trans eB)), bad, k⟩))) (er_of (due (j := 0) ((e38.trans e9).trans eA) rfl ev_c i0 d0))
      · rw [filter_yes, List.map_map]
        rfl
      · rw [List.all_map]
        simp
    rintro σ' H9 ⟨⟨v9, rfl⟩, e9⟩
    have e39 := e38.trans e9
    have g9 := (e8.trans e9) _ _ g5
    refine q_asg (ev_ixR (er_of (es_new (call_counts (es_var rfl g9) okg))) ev_c (at_int (j := 0) rfl (cts0 g))) fun HA eA => ?_
    generalize hWW : cnt (seats g.length) g = W
    have W0 : 0 ≤ W := by rw [← hWW]; exact cnt_nn _ _
    have ir : ∀ {n : Int}, (n < 0 ∨ W ≤ n) → inR W (.int n) = false := fun {n} h => by
      show (decide (0 ≤ n) && decide (n < W)) = false
      rcases h with h | h
      · rw [decide_eq_false (by omega : ¬ 0 ≤ n)]; rfl
      · rw [decide_eq_false (by omega : ¬ n < W)]; simp
    refine q_forTG (G := GN K W) gn_per (egs_cons gn_per (eg_v ev_c fun _ _ => ⟨itm_non, rfl⟩) (egs_cons gn_per (eg_v ev_c fun _ _ => ⟨itm_str, rfl⟩) (egs_cons gn_per (eg_v ev_c fun _ _ => ⟨itm_bl, rfl⟩) (egs_cons gn_per (eg_l (el_lst (ea_cons ev_c ea_nil) (by show 1 ≤ 100000; decide)) fun p H2 _ h => ⟨itm_lst h, rfl⟩) (egs_cons gn_per (eg_v (ev_U_neg ev_c) fun _ _ => ⟨itm_int, ir (.inl (by decide))⟩)
      (egs_cons gn_per (eg_v (ev_I0 (ev_U_neg ev_c) (ev_var rfl)) fun _ _ => ⟨itm_int, ir (.inl (by omega))⟩) (egs_cons gn_per (eg_v (ev_var rfl) fun _ _ => ⟨itm_int, ir (.inr (Int.le_refl _))⟩) (egs_cons gn_per (eg_v (ev_I0 (ev_var rfl) (ev_var rfl)) fun _ _ => ⟨itm_int, ir (.inr (by omega))⟩) (egs_cons gn_per (eg_u (eu_tup (ea_cons ev_c ea_nil) (by show 1 ≤ 100000; decide)) fun p H2 _ h => ⟨itm_tup h, rfl⟩) egs_nil))))))))) (by decide)
      (fun HB i σ' H' => (∃ v11, σ' = [some (.ref a), some (.int far), some (.ref pd), v3, some (.ref ps), some (.ref ph), some (.int (g.length : Int)), some (.ref pb), v8, v9, some (.int W), v11, none]) ∧ Ex HB H') (fun HB eB => ⟨⟨_, rfl⟩, Ex.refl _⟩) (fun _ _ _ _ q => q.2) ?_ ?_
    · rintro HB i x σ' HC eB ⟨ix, nx⟩ ⟨⟨v11, rfl⟩, eC⟩
      have e3C := ((e39.trans eA).trans eB).trans eC
      have e5C := (((e8.trans e9).trans eA).trans eB).trans eC
      refine s_when (b := false) (et_test (ev_neBs (bs := [false, true, false, true]) (er_of (es_new (el_told (x := .ref ps) (y := x) ev_c (ev_var rfl) (ev_var rfl) hS2 hE2 fun HD eD Q' E' k => ?_))) (er_of (due (j := 1) e3C rfl ev_c i1 d1)))) (fun h => nomatch h) fun _ HD eD => ⟨⟨_, rfl⟩, eC.trans eD⟩
      refine ⟨.ref ps, x, _, rfl, th_ints ((e5C.trans eD) _ _ g5) (by omega), ix.ex (eC.trans eD), fun z => ?_, fun _ => ⟨g, okg, rfl, fun _ => k, fun n en n0 n1 => ?_⟩⟩
      · rw [bad_ok okg] at z
        exact nomatch z
      · rw [hWW] at n1
        subst en
        have nx : (decide (0 ≤ n) && decide (n < W)) = false := nx
        rw [decide_eq_true n0, decide_eq_true n1] at nx
        exact nomatch nx
    rintro HB σ' HC eB ⟨⟨v11, rfl⟩, eC⟩
    have e3C := ((e39.trans eA).trans eB).trans eC
    have e5C := (((e8.trans e9).trans eA).trans eB).trans eC
    have gC := e5C _ _ g5
    refine q_when (b := false) (et_is (et_not (a := true) (et_B (ev_callB (eb_v (ev_var rfl) (eb_s (due (j := 2) e3C rfl ev_c i2 d2) (eb_v (ev_var rfl) eb_nil))) fun vs HD eD ⟨r, x1, p, r', x2, hp, r'', x3, x4⟩ Q' k => ?_))) rfl) (fun h => nomatch h) fun _ HD eD => ?_
    · subst x4 x3 x2 x1
      exact ⟨ps, p, g, far, rfl, eD _ _ gC, okg, hp, k⟩
    have z1 : cts [0, 1, 2] = [2, 3, 0, 1] := by decide
    have z2 : seatF (seats ([1, -1] : List Int).length) [1, -1] 0 = [0, 1] := by decide
    have z3 : (0 : Int) < cnt (seats ([1, -1] : List Int).length) [1, -1] := by decide
    refine s_ret (ev_is (ev_andV (ev_eqL (a := g) (b := g) (er_var rfl (sq_of (eD _ _ gC))) (er_var rfl (sq_of ((e5C.trans eD) _ _ h5)))) fun _ => ev_andV (ev_eqL (a := cts [0, 1, 2]) (b := [2, 3, 0, 1]) (er_of (es_new (el_countsX (g := [0, 1, 2]) (es_new (el_lst (ea_cons ev_c (ea_cons ev_c (ea_cons ev_c ea_nil))) (by show 3 ≤ 100000; decide))) ⟨by decide, by decide⟩))) (er_of (es_new (el_lst (ea_cons ev_c (ea_cons ev_c (ea_cons ev_c (ea_cons ev_c ea_nil)))) (by show 4 ≤ 100000; decide)))))
      fun _ => ev_eqL (a := seatF (seats ([1, -1] : List Int).length) [1, -1] 0) (b := [0, 1]) (er_of (es_new (el_seatX (g := [1, -1]) (es_new (el_lst (ea_cons ev_c (ea_cons (ev_U_neg ev_c) ea_nil)) (by show 2 ≤ 100000; decide))) ev_c ⟨by decide, by decide⟩ (by decide) z3))) (er_of (es_new (el_lst (ea_cons ev_c (ea_cons ev_c ea_nil)) (by show 2 ≤ 100000; decide))))) ?_) fun HE eE => q HE (e13.trans (((e3C.trans eD).trans eE)))
    rw [z1, z2]
    simp
end


section
theorem kit_own {K : PySem.W.Frag} {A C : Addr} {b : Bool} (hi : PySem.W.isClsIn K C = true) (ht : PySem.W.typeIn K (.ref C) = some (.type "type")) (hs : PySem.W.subIn K (.ref A) (.ref C) = some b) (hr : PySem.W.subIn K (.ref A) (.ref A) = some true) : PySem.W.kitOne K (.ref A) (.ref C) = some b := by
  unfold PySem.W.kitOne
  by_cases h : (Value.ref A == Value.ref C) = true
  · have e : Value.ref A = Value.ref C := beq_iff_eq.mp h
    injection e with e
    subst e
    rw [if_pos h, ← hs, hr]
  · rw [if_neg h]
    have e2 : ((PySem.W.clsIn K C).isSome && PySem.W.typeIn K (.ref C) == some (.type "type")) = true := by
      have h2' : (PySem.W.clsIn K C).isSome = true := hi
      rw [h2', ht] <;> rfl
    show (if ((PySem.W.clsIn K C).isSome && PySem.W.typeIn K (.ref C) == some (.type "type")) = true then PySem.W.subIn K (.ref A) (.ref C) else none) = some b
    rw [if_pos e2]
    exact hs
theorem kit_ve {K : PySem.W.Frag} {A : Addr} (hs : PySem.W.subIn K (.ref A) (.type "ValueError") = some true) : PySem.W.kitOne K (.ref A) (.type "ValueError") = some true := by
  have m : PySem.W.kitMeta "ValueError" = true := by decide +kernel
  have h : (Value.ref A == Value.type "ValueError") = false := rfl
  unfold PySem.W.kitOne
  rw [h, if_neg Bool.false_ne_true]
  show (if PySem.W.kitMeta "ValueError" = true then PySem.W.subIn K (.ref A) (.type "ValueError") else none) = some true
  rw [if_pos m]
  exact hs
/-- the kinds of an error of the class D -/
def SKC (K : PySem.W.Frag) (CS CN CB : Addr) : Addr → List V → Prop := fun D xs => ∃ b1 b2 b3, KC K CS CN CB D b1 b2 b3 ∧ xs = [b1, b2, b3, true].map V.bl
end


theorem all_mk {l : PySem.W.OpenLaw} {w : World} {K : PySem.W.Frag} {h : Heap} {mg : Str → Option Value} {fa f0 f1 f2 f3 f4 f5 f6 f7 f8 f9 f10 f11 f12 f13 f14 f15 f16 f17 f18 f19 f20 f21 f22 f23 f24 f25 f26 f27 f28 C_SeatError C_BadShuns C_BadNumber C_BadSeating C_Hall : Addr} (X : K.In h) (G : h.Ns mainGlobals mg) (hfa : mg "law" = some (.ref fa))
    {od0 an0 od1 an1 od2 an2 od3 an3 od4 an4 od5 an5 od6 an6 od7 an7 od8 an8 od9 an9 od10 an10 od11 an11 od12 an12 od13 an13 od14 an14 od15 an15 od16 an16 od17 an17 od18 an18 od19 an19 od20 an20 od21 an21 od22 an22 od23 an23 od24 an24 od25 an25 od26 an26 od27 an27 od28 an28 : Option Addr} {sl0 sl1 sl2 sl3 sl4 sl5 sl6 sl7 sl8 sl9 sl10 sl11 sl12 sl13 sl14 sl15 sl16 sl17 sl18 sl19 sl20 sl21 sl22 sl23 sl24 sl25 sl26 sl27 sl28 : Array (Option Value)} {oc0 kV0 dc0 pm0 cd0 ct0 oc1 kV1 dc1 pm1 cd1 ct1 oc2 kV2 dc2 pm2 cd2 ct2 oc3 kV3 dc3 pm3 cd3 ct3 oc4 kV4 dc4 pm4 cd4 ct4 oc5 kV5 dc5 pm5 cd5 ct5 oc6 kV6 dc6 pm6 cd6 ct6 oc7 kV7 dc7 pm7 cd7 ct7 oc8 kV8 dc8 pm8 cd8 ct8 oc9 kV9 dc9 pm9 cd9 ct9 oc10 kV10 dc10 pm10 cd10 ct10 oc11 kV11 dc11 pm11 cd11 ct11 oc12 kV12 dc12 pm12 cd12 ct12 oc13 kV13 dc13 pm13 cd13 ct13 oc14 kV14 dc14 pm14 cd14 ct14 oc15 kV15 dc15 pm15 cd15 ct15 oc16 kV16 dc16 pm16 cd16 ct16 oc17 kV17 dc17 pm17 cd17 ct17 oc18 kV18 dc18 pm18 cd18 ct18 oc19 kV19 dc19 pm19 cd19 ct19 oc20 kV20 dc20 pm20 cd20 ct20 oc21 kV21 dc21 pm21 cd21 ct21 oc22 kV22 dc22 pm22 cd22 ct22 oc23 kV23 dc23 pm23 cd23 ct23 oc24 kV24 dc24 pm24 cd24 ct24 oc25 kV25 dc25 pm25 cd25 ct25 oc26 kV26 dc26 pm26 cd26 ct26 oc27 kV27 dc27 pm27 cd27 ct27 oc28 kV28 dc28 pm28 cd28 ct28 : Value}
    (g_SeatError : PySem.W.nsIn K mainGlobals "SeatError" = some (some (.ref C_SeatError)))
    (g_BadShuns : PySem.W.nsIn K mainGlobals "BadShuns" = some (some (.ref C_BadShuns)))
    (g_BadNumber : PySem.W.nsIn K mainGlobals "BadNumber" = some (some (.ref C_BadNumber)))
    (g_BadSeating : PySem.W.nsIn K mainGlobals "BadSeating" = some (some (.ref C_BadSeating)))
    (g_Hall : PySem.W.nsIn K mainGlobals "Hall" = some (some (.ref C_Hall)))
    (a0 : PySem.W.nsIn K mainGlobals "is_whole" = some (some (.ref f0)))
    (l0 : K.lookup f0 = some ⟨oc0, od0, .func (PySem.W.fnOf "is_whole" "is_whole" (defArgs (topS 7)) (defBody (topS 7)) (defScope (topS 7)) .none kV0 dc0 pm0 an0 cd0 ct0), sl0⟩) (c0 : PySem.W.codeIn K cd0 "is_whole" = true) (k0 : PySem.W.keepIn K (.ref f0) = true)
    (a1 : PySem.W.nsIn K mainGlobals "check_shuns" = some (some (.ref f1)))
    (l1 : K.lookup f1 = some ⟨oc1, od1, .func (PySem.W.fnOf "check_shuns" "check_shuns" (defArgs (topS 8)) (defBody (topS 8)) (defScope (topS 8)) .none kV1 dc1 pm1 an1 cd1 ct1), sl1⟩) (c1 : PySem.W.codeIn K cd1 "check_shuns" = true) (k1 : PySem.W.keepIn K (.ref f1) = true)
    (a2 : PySem.W.nsIn K mainGlobals "orders_to" = some (some (.ref f2)))
    (l2 : K.lookup f2 = some ⟨oc2, od2, .func (PySem.W.fnOf "orders_to" "orders_to" (defArgs (topS 9)) (defBody (topS 9)) (defScope (topS 9)) .none kV2 dc2 pm2 an2 cd2 ct2), sl2⟩) (c2 : PySem.W.codeIn K cd2 "orders_to" = true) (k2 : PySem.W.keepIn K (.ref f2) = true)
    (a3 : PySem.W.nsIn K mainGlobals "with_part" = some (some (.ref f3)))
    (l3 : K.lookup f3 = some ⟨oc3, od3, .func (PySem.W.fnOf "with_part" "with_part" (defArgs (topS 10)) (defBody (topS 10)) (defScope (topS 10)) .none kV3 dc3 pm3 an3 cd3 ct3), sl3⟩) (c3 : PySem.W.codeIn K cd3 "with_part" = true) (k3 : PySem.W.keepIn K (.ref f3) = true)
    (a4 : PySem.W.nsIn K mainGlobals "shunners" = some (some (.ref f4)))
    (l4 : K.lookup f4 = some ⟨oc4, od4, .func (PySem.W.fnOf "shunners" "shunners" (defArgs (topS 12)) (defBody (topS 12)) (defScope (topS 12)) .none kV4 dc4 pm4 an4 cd4 ct4), sl4⟩) (c4 : PySem.W.codeIn K cd4 "shunners" = true) (k4 : PySem.W.keepIn K (.ref f4) = true)
    (a5 : PySem.W.nsIn K mainGlobals "sums_of" = some (some (.ref f5)))
    (l5 : K.lookup f5 = some ⟨oc5, od5, .func (PySem.W.fnOf "sums_of" "sums_of" (defArgs (topS 13)) (defBody (topS 13)) (defScope (topS 13)) .none kV5 dc5 pm5 an5 cd5 ct5), sl5⟩) (c5 : PySem.W.codeIn K cd5 "sums_of" = true) (k5 : PySem.W.keepIn K (.ref f5) = true)
    (a6 : PySem.W.nsIn K mainGlobals "counts" = some (some (.ref f6)))
    (l6 : K.lookup f6 = some ⟨oc6, od6, .func (PySem.W.fnOf "counts" "counts" (defArgs (topS 14)) (defBody (topS 14)) (defScope (topS 14)) .none kV6 dc6 pm6 an6 cd6 ct6), sl6⟩) (c6 : PySem.W.codeIn K cd6 "counts" = true) (k6 : PySem.W.keepIn K (.ref f6) = true)
    (a7 : PySem.W.nsIn K mainGlobals "seated" = some (some (.ref f7)))
    (l7 : K.lookup f7 = some ⟨oc7, od7, .func (PySem.W.fnOf "seated" "seated" (defArgs (topS 25)) (defBody (topS 25)) (defScope (topS 25)) .none kV7 dc7 pm7 an7 cd7 ct7), sl7⟩) (c7 : PySem.W.codeIn K cd7 "seated" = true) (k7 : PySem.W.keepIn K (.ref f7) = true)
    (a8 : PySem.W.nsIn K mainGlobals "without_part" = some (some (.ref f8)))
    (l8 : K.lookup f8 = some ⟨oc8, od8, .func (PySem.W.fnOf "without_part" "without_part" (defArgs (topS 11)) (defBody (topS 11)) (defScope (topS 11)) .none kV8 dc8 pm8 an8 cd8 ct8), sl8⟩) (c8 : PySem.W.codeIn K cd8 "without_part" = true) (k8 : PySem.W.keepIn K (.ref f8) = true)
    (a9 : PySem.W.findIn K (.ref C_Hall) "__init__" = some (some (.ref f9))) (i9 : PySem.W.isFn K (.ref f9) = true)
    (l9 : K.lookup f9 = some ⟨oc9, od9, .func (PySem.W.fnOf "__init__" "Hall.__init__" (defArgs (inClass (topS 16) 0)) (defBody (inClass (topS 16) 0)) (defScope (inClass (topS 16) 0)) .none kV9 dc9 pm9 an9 cd9 ct9), sl9⟩) (c9 : PySem.W.codeIn K cd9 "Hall.__init__" = true) (k9 : PySem.W.keepIn K (.ref f9) = true)
    (a10 : PySem.W.findIn K (.ref C_Hall) "ways" = some (some (.ref f10))) (i10 : PySem.W.isFn K (.ref f10) = true)
    (l10 : K.lookup f10 = some ⟨oc10, od10, .func (PySem.W.fnOf "ways" "Hall.ways" (defArgs (inClass (topS 16) 1)) (defBody (inClass (topS 16) 1)) (defScope (inClass (topS 16) 1)) .none kV10 dc10 pm10 an10 cd10 ct10), sl10⟩) (c10 : PySem.W.codeIn K cd10 "Hall.ways" = true) (k10 : PySem.W.keepIn K (.ref f10) = true)
    (a11 : PySem.W.findIn K (.ref C_Hall) "whole" = some (some (.ref f11))) (i11 : PySem.W.isFn K (.ref f11) = true)
    (l11 : K.lookup f11 = some ⟨oc11, od11, .func (PySem.W.fnOf "whole" "Hall.whole" (defArgs (inClass (topS 16) 2)) (defBody (inClass (topS 16) 2)) (defScope (inClass (topS 16) 2)) .none kV11 dc11 pm11 an11 cd11 ct11), sl11⟩) (c11 : PySem.W.codeIn K cd11 "Hall.whole" = true) (k11 : PySem.W.keepIn K (.ref f11) = true)
    (a12 : PySem.W.findIn K (.ref C_Hall) "turn" = some (some (.ref f12))) (i12 : PySem.W.isFn K (.ref f12) = true)
    (l12 : K.lookup f12 = some ⟨oc12, od12, .func (PySem.W.fnOf "turn" "Hall.turn" (defArgs (inClass (topS 16) 3)) (defBody (inClass (topS 16) 3)) (defScope (inClass (topS 16) 3)) .none kV12 dc12 pm12 an12 cd12 ct12), sl12⟩) (c12 : PySem.W.codeIn K cd12 "Hall.turn" = true) (k12 : PySem.W.keepIn K (.ref f12) = true)
    (a13 : PySem.W.findIn K (.ref C_Hall) "choices" = some (some (.ref f13))) (i13 : PySem.W.isFn K (.ref f13) = true)
    (l13 : K.lookup f13 = some ⟨oc13, od13, .func (PySem.W.fnOf "choices" "Hall.choices" (defArgs (inClass (topS 16) 4)) (defBody (inClass (topS 16) 4)) (defScope (inClass (topS 16) 4)) .none kV13 dc13 pm13 an13 cd13 ct13), sl13⟩) (c13 : PySem.W.codeIn K cd13 "Hall.choices" = true) (k13 : PySem.W.keepIn K (.ref f13) = true)
    (a14 : PySem.W.findIn K (.ref C_Hall) "take" = some (some (.ref f14))) (i14 : PySem.W.isFn K (.ref f14) = true)
    (l14 : K.lookup f14 = some ⟨oc14, od14, .func (PySem.W.fnOf "take" "Hall.take" (defArgs (inClass (topS 16) 5)) (defBody (inClass (topS 16) 5)) (defScope (inClass (topS 16) 5)) .none kV14 dc14 pm14 an14 cd14 ct14), sl14⟩) (c14 : PySem.W.codeIn K cd14 "Hall.take" = true) (k14 : PySem.W.keepIn K (.ref f14) = true)
    (a15 : PySem.W.nsIn K mainGlobals "seating_of" = some (some (.ref f15)))
    (l15 : K.lookup f15 = some ⟨oc15, od15, .func (PySem.W.fnOf "seating_of" "seating_of" (defArgs (topS 17)) (defBody (topS 17)) (defScope (topS 17)) .none kV15 dc15 pm15 an15 cd15 ct15), sl15⟩) (c15 : PySem.W.codeIn K cd15 "seating_of" = true) (k15 : PySem.W.keepIn K (.ref f15) = true)
    (a16 : PySem.W.nsIn K mainGlobals "is_seating" = some (some (.ref f16)))
    (l16 : K.lookup f16 = some ⟨oc16, od16, .func (PySem.W.fnOf "is_seating" "is_seating" (defArgs (topS 18)) (defBody (topS 18)) (defScope (topS 18)) .none kV16 dc16 pm16 an16 cd16 ct16), sl16⟩) (c16 : PySem.W.codeIn K cd16 "is_seating" = true) (k16 : PySem.W.keepIn K (.ref f16) = true)
    (a17 : PySem.W.nsIn K mainGlobals "number_of" = some (some (.ref f17)))
    (l17 : K.lookup f17 = some ⟨oc17, od17, .func (PySem.W.fnOf "number_of" "number_of" (defArgs (topS 19)) (defBody (topS 19)) (defScope (topS 19)) .none kV17 dc17 pm17 an17 cd17 ct17), sl17⟩) (c17 : PySem.W.codeIn K cd17 "number_of" = true) (k17 : PySem.W.keepIn K (.ref f17) = true)
    (a18 : PySem.W.nsIn K mainGlobals "_law_cell_at" = some (some (.ref f18)))
    (l18 : K.lookup f18 = some ⟨oc18, od18, .func (PySem.W.fnOf "_law_cell_at" "_law_cell_at" (defArgs (topS 27)) (defBody (topS 27)) (defScope (topS 27)) .none kV18 dc18 pm18 an18 cd18 ct18), sl18⟩) (c18 : PySem.W.codeIn K cd18 "_law_cell_at" = true) (k18 : PySem.W.keepIn K (.ref f18) = true)
    (a19 : PySem.W.nsIn K mainGlobals "_law_draw" = some (some (.ref f19)))
    (l19 : K.lookup f19 = some ⟨oc19, od19, .func (PySem.W.fnOf "_law_draw" "_law_draw" (defArgs (topS 28)) (defBody (topS 28)) (defScope (topS 28)) .none kV19 dc19 pm19 an19 cd19 ct19), sl19⟩) (c19 : PySem.W.codeIn K cd19 "_law_draw" = true) (k19 : PySem.W.keepIn K (.ref f19) = true)
    (a20 : PySem.W.nsIn K mainGlobals "_law_shuns" = some (some (.ref f20)))
    (l20 : K.lookup f20 = some ⟨oc20, od20, .func (PySem.W.fnOf "_law_shuns" "_law_shuns" (defArgs (topS 29)) (defBody (topS 29)) (defScope (topS 29)) .none kV20 dc20 pm20 an20 cd20 ct20), sl20⟩) (c20 : PySem.W.codeIn K cd20 "_law_shuns" = true) (k20 : PySem.W.keepIn K (.ref f20) = true)
    (a21 : PySem.W.nsIn K mainGlobals "_law_counts" = some (some (.ref f21)))
    (l21 : K.lookup f21 = some ⟨oc21, od21, .func (PySem.W.fnOf "_law_counts" "_law_counts" (defArgs (topS 30)) (defBody (topS 30)) (defScope (topS 30)) .none kV21 dc21 pm21 an21 cd21 ct21), sl21⟩) (c21 : PySem.W.codeIn K cd21 "_law_counts" = true) (k21 : PySem.W.keepIn K (.ref f21) = true)
    (a22 : PySem.W.nsIn K mainGlobals "_law_whole" = some (some (.ref f22)))
    (l22 : K.lookup f22 = some ⟨oc22, od22, .func (PySem.W.fnOf "_law_whole" "_law_whole" (defArgs (topS 33)) (defBody (topS 33)) (defScope (topS 33)) .none kV22 dc22 pm22 an22 cd22 ct22), sl22⟩) (c22 : PySem.W.codeIn K cd22 "_law_whole" = true) (k22 : PySem.W.keepIn K (.ref f22) = true)
    (a23 : PySem.W.nsIn K mainGlobals "_law_off" = some (some (.ref f23)))
    (l23 : K.lookup f23 = some ⟨oc23, od23, .func (PySem.W.fnOf "_law_off" "_law_off" (defArgs (topS 31)) (defBody (topS 31)) (defScope (topS 31)) .none kV23 dc23 pm23 an23 cd23 ct23), sl23⟩) (c23 : PySem.W.codeIn K cd23 "_law_off" = true) (k23 : PySem.W.keepIn K (.ref f23) = true)
    (a24 : PySem.W.nsIn K mainGlobals "_law_with_shuns" = some (some (.ref f24)))
    (l24 : K.lookup f24 = some ⟨oc24, od24, .func (PySem.W.fnOf "_law_with_shuns" "_law_with_shuns" (defArgs (topS 35)) (defBody (topS 35)) (defScope (topS 35)) .none kV24 dc24 pm24 an24 cd24 ct24), sl24⟩) (c24 : PySem.W.codeIn K cd24 "_law_with_shuns" = true) (k24 : PySem.W.keepIn K (.ref f24) = true)
    (a25 : PySem.W.nsIn K mainGlobals "_law_kinds" = some (some (.ref f25)))
    (l25 : K.lookup f25 = some ⟨oc25, od25, .func (PySem.W.fnOf "_law_kinds" "_law_kinds" (defArgs (topS 34)) (defBody (topS 34)) (defScope (topS 34)) .none kV25 dc25 pm25 an25 cd25 ct25), sl25⟩) (c25 : PySem.W.codeIn K cd25 "_law_kinds" = true) (k25 : PySem.W.keepIn K (.ref f25) = true)
    (a26 : PySem.W.nsIn K mainGlobals "_law_told" = some (some (.ref f26)))
    (l26 : K.lookup f26 = some ⟨oc26, od26, .func (PySem.W.fnOf "_law_told" "_law_told" (defArgs (topS 36)) (defBody (topS 36)) (defScope (topS 36)) .none kV26 dc26 pm26 an26 cd26 ct26), sl26⟩) (c26 : PySem.W.codeIn K cd26 "_law_told" = true) (k26 : PySem.W.keepIn K (.ref f26) = true)
    (a27 : PySem.W.nsIn K mainGlobals "_law_seatings_right" = some (some (.ref f27)))
    (l27 : K.lookup f27 = some ⟨oc27, od27, .func (PySem.W.fnOf "_law_seatings_right" "_law_seatings_right" (defArgs (topS 37)) (defBody (topS 37)) (defScope (topS 37)) .none kV27 dc27 pm27 an27 cd27 ct27), sl27⟩) (c27 : PySem.W.codeIn K cd27 "_law_seatings_right" = true) (k27 : PySem.W.keepIn K (.ref f27) = true)
    (a28 : PySem.W.nsIn K mainGlobals "law" = some (some (.ref f28)))
    (l28 : K.lookup f28 = some ⟨oc28, od28, .func (PySem.W.fnOf "law" "law" (defArgs (topS 38)) (defBody (topS 38)) (defScope (topS 38)) .none kV28 dc28 pm28 an28 cd28 ct28), sl28⟩) (c28 : PySem.W.codeIn K cd28 "law" = true) (k28 : PySem.W.keepIn K (.ref f28) = true)
    (z_len : PySem.W.nsIn K mainGlobals "len" = some none)
    (z_range : PySem.W.nsIn K mainGlobals "range" = some none)
    (z_list : PySem.W.nsIn K mainGlobals "list" = some none)
    (z_isinstance : PySem.W.nsIn K mainGlobals "isinstance" = some none)
    (z_int : PySem.W.nsIn K mainGlobals "int" = some none)
    (z_bool : PySem.W.nsIn K mainGlobals "bool" = some none)
    (z_all : PySem.W.nsIn K mainGlobals "all" = some none)
    (z_any : PySem.W.nsIn K mainGlobals "any" = some none)
    (z_sum : PySem.W.nsIn K mainGlobals "sum" = some none)
    (z_min : PySem.W.nsIn K mainGlobals "min" = some none)
    (z_max : PySem.W.nsIn K mainGlobals "max" = some none)
    (z_sorted : PySem.W.nsIn K mainGlobals "sorted" = some none)
    (z_enumerate : PySem.W.nsIn K mainGlobals "enumerate" = some none)
    (z_zip : PySem.W.nsIn K mainGlobals "zip" = some none)
    (z_reversed : PySem.W.nsIn K mainGlobals "reversed" = some none)
    (z_tuple : PySem.W.nsIn K mainGlobals "tuple" = some none)
    (hn_o : PySem.W.specialIn K (.builtin "object.__class__") "__get__" = some (some (.builtin "getset_descriptor.__get__")))
    (ht_o : PySem.W.takesIn K (.builtin "object.__class__") = some true)
    (pg_Hall : PySem.W.plainGet K C_Hall Str.empty = true)
    (hd_Hall : PySem.W.hasDictIn K C_Hall = true)
    (po_Hall : PySem.W.plainOver K C_Hall = true)
    (sa_Hall : PySem.W.findIn K (.ref C_Hall) "__setattr__" = some (some (.builtin "object.__setattr__")))
    (mk_Hall : PySem.W.makesIn K C_Hall = true)
    (kc_Hall : PySem.W.keepIn K (.ref C_Hall) = true)
    (ha_Hall : PySem.W.findIn K (.ref C_Hall) "__class__" = some (some (.builtin "object.__class__")))
    (hm_Hall : PySem.W.mroIn K C_Hall (.type "object") = some true)
    (nh_shuns : PySem.W.findIn K (.ref C_Hall) "shuns" = some none)
    (nh_orders : PySem.W.findIn K (.ref C_Hall) "orders" = some none)
    (nh_marks : PySem.W.findIn K (.ref C_Hall) "marks" = some none)
    (nh_sums : PySem.W.findIn K (.ref C_Hall) "sums" = some none)
    (nh_seats : PySem.W.findIn K (.ref C_Hall) "seats" = some none)
    (z_ValueError : PySem.W.nsIn K mainGlobals "ValueError" = some none)
    (se_b : PySem.W.subIn K (.ref C_SeatError) (.type "BaseException") = some true)
    (se_d : PySem.W.hasDictIn K C_SeatError = true)
    (se_t : PySem.W.typeIn K (.ref C_SeatError) = some (.type "type"))
    (xe_BadShuns : PySem.W.excIn K C_BadShuns [.type "ValueError", .type "Exception", .type "BaseException", .type "object"] "ValueError.__new__" = true)
    (kc_BadShuns : PySem.W.keepIn K (.ref C_BadShuns) = true)
    (be_BadShuns : PySem.W.subIn K (.ref C_BadShuns) (.type "BaseException") = some true)
    (ty_BadShuns : PySem.W.typeIn K (.ref C_BadShuns) = some (.type "type"))
    (ga_BadShuns : PySem.W.findIn K (.ref C_BadShuns) "__getattribute__" = some (some (.builtin "BaseException.__getattribute__")))
    (gt_BadShuns : PySem.W.findIn K (.ref C_BadShuns) "__getattr__" = some none)
    (hd_BadShuns : PySem.W.hasDictIn K C_BadShuns = true)
    (ha_BadShuns : PySem.W.findIn K (.ref C_BadShuns) "__class__" = some (some (.builtin "object.__class__")))
    (hm_BadShuns : PySem.W.mroIn K C_BadShuns (.type "object") = some true)
    (ic_BadShuns : PySem.W.isClsIn K C_BadShuns = true)
    (su_BadShuns : PySem.W.subIn K (.ref C_BadShuns) (.ref C_SeatError) = some true)
    (sv_BadShuns : PySem.W.subIn K (.ref C_BadShuns) (.type "ValueError") = some true)
    (xe_BadNumber : PySem.W.excIn K C_BadNumber [.type "ValueError", .type "Exception", .type "BaseException", .type "object"] "ValueError.__new__" = true)
    (kc_BadNumber : PySem.W.keepIn K (.ref C_BadNumber) = true)
    (be_BadNumber : PySem.W.subIn K (.ref C_BadNumber) (.type "BaseException") = some true)
    (ty_BadNumber : PySem.W.typeIn K (.ref C_BadNumber) = some (.type "type"))
    (ga_BadNumber : PySem.W.findIn K (.ref C_BadNumber) "__getattribute__" = some (some (.builtin "BaseException.__getattribute__")))
    (gt_BadNumber : PySem.W.findIn K (.ref C_BadNumber) "__getattr__" = some none)
    (hd_BadNumber : PySem.W.hasDictIn K C_BadNumber = true)
    (ha_BadNumber : PySem.W.findIn K (.ref C_BadNumber) "__class__" = some (some (.builtin "object.__class__")))
    (hm_BadNumber : PySem.W.mroIn K C_BadNumber (.type "object") = some true)
    (ic_BadNumber : PySem.W.isClsIn K C_BadNumber = true)
    (su_BadNumber : PySem.W.subIn K (.ref C_BadNumber) (.ref C_SeatError) = some true)
    (sv_BadNumber : PySem.W.subIn K (.ref C_BadNumber) (.type "ValueError") = some true)
    (xe_BadSeating : PySem.W.excIn K C_BadSeating [.type "ValueError", .type "Exception", .type "BaseException", .type "object"] "ValueError.__new__" = true)
    (kc_BadSeating : PySem.W.keepIn K (.ref C_BadSeating) = true)
    (be_BadSeating : PySem.W.subIn K (.ref C_BadSeating) (.type "BaseException") = some true)
    (ty_BadSeating : PySem.W.typeIn K (.ref C_BadSeating) = some (.type "type"))
    (ga_BadSeating : PySem.W.findIn K (.ref C_BadSeating) "__getattribute__" = some (some (.builtin "BaseException.__getattribute__")))
    (gt_BadSeating : PySem.W.findIn K (.ref C_BadSeating) "__getattr__" = some none)
    (hd_BadSeating : PySem.W.hasDictIn K C_BadSeating = true)
    (ha_BadSeating : PySem.W.findIn K (.ref C_BadSeating) "__class__" = some (some (.builtin "object.__class__")))
    (hm_BadSeating : PySem.W.mroIn K C_BadSeating (.type "object") = some true)
    (ic_BadSeating : PySem.W.isClsIn K C_BadSeating = true)
    (su_BadSeating : PySem.W.subIn K (.ref C_BadSeating) (.ref C_SeatError) = some true)
    (sv_BadSeating : PySem.W.subIn K (.ref C_BadSeating) (.type "ValueError") = some true)
    (s_BadShuns_BadShuns : PySem.W.subIn K (.ref C_BadShuns) (.ref C_BadShuns) = some true)
    (s_BadShuns_BadNumber : PySem.W.subIn K (.ref C_BadShuns) (.ref C_BadNumber) = some false)
    (s_BadShuns_BadSeating : PySem.W.subIn K (.ref C_BadShuns) (.ref C_BadSeating) = some false)
    (s_BadNumber_BadShuns : PySem.W.subIn K (.ref C_BadNumber) (.ref C_BadShuns) = some false)
    (s_BadNumber_BadNumber : PySem.W.subIn K (.ref C_BadNumber) (.ref C_BadNumber) = some true)
    (s_BadNumber_BadSeating : PySem.W.subIn K (.ref C_BadNumber) (.ref C_BadSeating) = some false)
    (s_BadSeating_BadShuns : PySem.W.subIn K (.ref C_BadSeating) (.ref C_BadShuns) = some false)
    (s_BadSeating_BadNumber : PySem.W.subIn K (.ref C_BadSeating) (.ref C_BadNumber) = some false)
    (s_BadSeating_BadSeating : PySem.W.subIn K (.ref C_BadSeating) (.ref C_BadSeating) = some true)
    : ∃ fd : FuncData, (∀ (s : Shared) (v : Value), BindsTo s fd ⟨[v], []⟩ [("_law_script", v)]) ∧ ∀ base : Heap, K.In base → base.Ns mainGlobals mg → FnOk l.prog w K mg base CX0 9 fa fd ["_law_script"] (spLaw K) := by
  have e := hfa.symm.trans (PySem.W.mg_of X G a28)
  cases e
  have B : Bi mg := ⟨PySem.W.mg_none_of X G z_len, PySem.W.mg_none_of X G z_range, PySem.W.mg_none_of X G z_list, PySem.W.mg_none_of X G z_isinstance, PySem.W.mg_none_of X G z_int, PySem.W.mg_none_of X G z_bool, PySem.W.mg_none_of X G z_all, PySem.W.mg_none_of X G z_any, PySem.W.mg_none_of X G z_sum, PySem.W.mg_none_of X G z_min, PySem.W.mg_none_of X G z_max, PySem.W.mg_none_of X G z_sorted, PySem.W.mg_none_of X G z_enumerate, PySem.W.mg_none_of X G z_zip, PySem.W.mg_none_of X G z_reversed, PySem.W.mg_none_of X G z_tuple⟩
  have F0 := fun_mk (st := (topS 7)) l0 c0 k0
  have b0 := F0.binds (ps := ["thing"]) fun _ _ _ _ _ _ us hl => match us, hl with | [_], _ => rfl
  have F1 := fun_mk (st := (topS 8)) l1 c1 k1
  have b1 := F1.binds (ps := ["shuns"]) fun _ _ _ _ _ _ us hl => match us, hl with | [_], _ => rfl
  have F2 := fun_mk (st := (topS 9)) l2 c2 k2
  have b2 := F2.binds (ps := ["many"]) fun _ _ _ _ _ _ us hl => match us, hl with | [_], _ => rfl
  have F3 := fun_mk (st := (topS 10)) l3 c3 k3
  have b3 := F3.binds (ps := ["sums", "many"]) fun _ _ _ _ _ _ us hl => match us, hl with | [_, _], _ => rfl
  have F4 := fun_mk (st := (topS 12)) l4 c4 k4
  have b4 := F4.binds (ps := ["shuns"]) fun _ _ _ _ _ _ us hl => match us, hl with | [_], _ => rfl
  have F5 := fun_mk (st := (topS 13)) l5 c5 k5
  have b5 := F5.binds (ps := ["marks"]) fun _ _ _ _ _ _ us hl => match us, hl with | [_], _ => rfl
  have F6 := fun_mk (st := (topS 14)) l6 c6 k6
  have b6 := F6.binds (ps := ["shuns"]) fun _ _ _ _ _ _ us hl => match us, hl with | [_], _ => rfl
  have F7 := fun_mk (st := (topS 25)) l7 c7 k7
  have b7 := F7.binds (ps := ["shuns"]) fun _ _ _ _ _ _ us hl => match us, hl with | [_], _ => rfl
  have F8 := fun_mk (st := (topS 11)) l8 c8 k8
  have b8 := F8.binds (ps := ["sums", "many"]) fun _ _ _ _ _ _ us hl => match us, hl with | [_, _], _ => rfl
  have F9 := fun_mk (st := (inClass (topS 16) 0)) l9 c9 k9
  have b9 := F9.binds (ps := ["self", "shuns"]) fun _ _ _ _ _ _ us hl => match us, hl with | [_, _], _ => rfl
  have F10 := fun_mk (st := (inClass (topS 16) 1)) l10 c10 k10
  have b10 := F10.binds (ps := ["self", "sums", "many"]) fun _ _ _ _ _ _ us hl => match us, hl with | [_, _, _], _ => rfl
  have F11 := fun_mk (st := (inClass (topS 16) 2)) l11 c11 k11
  have b11 := F11.binds (ps := ["self"]) fun _ _ _ _ _ _ us hl => match us, hl with | [_], _ => rfl
  have F12 := fun_mk (st := (inClass (topS 16) 3)) l12 c12 k12
  have b12 := F12.binds (ps := ["self", "guest"]) fun _ _ _ _ _ _ us hl => match us, hl with | [_, _], _ => rfl
  have F13 := fun_mk (st := (inClass (topS 16) 4)) l13 c13 k13
  have b13 := F13.binds (ps := ["self", "guest"]) fun _ _ _ _ _ _ us hl => match us, hl with | [_, _], _ => rfl
  have F14 := fun_mk (st := (inClass (topS 16) 5)) l14 c14 k14
  have b14 := F14.binds (ps := ["self", "seat"]) fun _ _ _ _ _ _ us hl => match us, hl with | [_, _], _ => rfl
  have F15 := fun_mk (st := (topS 17)) l15 c15 k15
  have b15 := F15.binds (ps := ["shuns", "number"]) fun _ _ _ _ _ _ us hl => match us, hl with | [_, _], _ => rfl
  have F16 := fun_mk (st := (topS 18)) l16 c16 k16
  have b16 := F16.binds (ps := ["shuns", "seating"]) fun _ _ _ _ _ _ us hl => match us, hl with | [_, _], _ => rfl
  have F17 := fun_mk (st := (topS 19)) l17 c17 k17
  have b17 := F17.binds (ps := ["shuns", "seating"]) fun _ _ _ _ _ _ us hl => match us, hl with | [_, _], _ => rfl
  have F18 := fun_mk (st := (topS 27)) l18 c18 k18
  have b18 := F18.binds (ps := ["_law_script", "_law_k"]) fun _ _ _ _ _ _ us hl => match us, hl with | [_, _], _ => rfl
  have F19 := fun_mk (st := (topS 28)) l19 c19 k19
  have b19 := F19.binds (ps := ["_law_cell", "_law_k", "_law_many"]) fun _ _ _ _ _ _ us hl => match us, hl with | [_, _, _], _ => rfl
  have F20 := fun_mk (st := (topS 29)) l20 c20 k20
  have b20 := F20.binds (ps := ["_law_script"]) fun _ _ _ _ _ _ us hl => match us, hl with | [_], _ => rfl
  have F21 := fun_mk (st := (topS 30)) l21 c21 k21
  have b21 := F21.binds (ps := ["_law_shuns_here"]) fun _ _ _ _ _ _ us hl => match us, hl with | [_], _ => rfl
  have F22 := fun_mk (st := (topS 33)) l22 c22 k22
  have b22 := F22.binds (ps := ["_law_number"]) fun _ _ _ _ _ _ us hl => match us, hl with | [_], _ => rfl
  have F23 := fun_mk (st := (topS 31)) l23 c23 k23
  have b23 := F23.binds (ps := ["_law_shuns_here", "_law_found"]) fun _ _ _ _ _ _ us hl => match us, hl with | [_, _], _ => rfl
  have F24 := fun_mk (st := (topS 35)) l24 c24 k24
  have b24 := F24.binds (ps := ["_law_door", "_law_shuns_here"]) fun _ _ _ _ _ _ us hl => match us, hl with | [_, _], _ => rfl
  have F25 := fun_mk (st := (topS 34)) l25 c25 k25
  have b25 := F25.binds (ps := ["_law_error"]) fun _ _ _ _ _ _ us hl => match us, hl with | [_], _ => rfl
  have F26 := fun_mk (st := (topS 36)) l26 c26 k26
  have b26 := F26.binds (ps := ["_law_ask", "_law_one", "_law_other"]) fun _ _ _ _ _ _ us hl => match us, hl with | [_, _, _], _ => rfl
  have F27 := fun_mk (st := (topS 37)) l27 c27 k27
  have b27 := F27.binds (ps := ["_law_shuns_here", "_law_due", "_law_far_here"]) fun _ _ _ _ _ _ us hl => match us, hl with | [_, _, _], _ => rfl
  have F28 := fun_mk (st := (topS 38)) l28 c28 k28
  have b28 := F28.binds (ps := ["_law_script"]) fun _ _ _ _ _ _ us hl => match us, hl with | [_], _ => rfl
  refine ⟨PySem.W.fnOf "law" "law" (defArgs (topS 38)) (defBody (topS 38)) (defScope (topS 38)) .none kV28 dc28 pm28 an28 cd28 ct28, fun s v => .of_eq rfl, fun base _ _ => ?_⟩
  have io_Hall : Io K C_Hall := ⟨⟨pg_Hall, hd_Hall, po_Hall, sa_Hall⟩, ha_Hall, hn_o, ht_o, hm_Hall⟩
  have HX : HK K C_Hall := ⟨io_Hall, nh_shuns, nh_orders, nh_marks, nh_sums, nh_seats⟩
  have XS : XCls K mg "BadShuns" C_BadShuns := ⟨xe_BadShuns, PySem.W.mg_of X G g_BadShuns, kc_BadShuns, be_BadShuns, ty_BadShuns⟩
  have ex_BadShuns : ExcC K C_BadShuns := ⟨ga_BadShuns, gt_BadShuns, be_BadShuns, hd_BadShuns, ha_BadShuns, hn_o, ht_o, hm_BadShuns⟩
  have hE_BadShuns : PySem.W.exmOne K (.ref C_BadShuns) (.ref C_SeatError) = some true := PySem.W.exm_ref se_b se_d se_t su_BadShuns
  have kC_BadShuns : KC K C_BadShuns C_BadNumber C_BadSeating C_BadShuns true false false := ⟨ex_BadShuns, kit_own ic_BadShuns ty_BadShuns s_BadShuns_BadShuns s_BadShuns_BadShuns, kit_own ic_BadNumber ty_BadNumber s_BadShuns_BadNumber s_BadShuns_BadShuns, kit_own ic_BadSeating ty_BadSeating s_BadShuns_BadSeating s_BadShuns_BadShuns, kit_ve sv_BadShuns⟩
  have XN : XCls K mg "BadNumber" C_BadNumber := ⟨xe_BadNumber, PySem.W.mg_of X G g_BadNumber, kc_BadNumber, be_BadNumber, ty_BadNumber⟩
  have ex_BadNumber : ExcC K C_BadNumber := ⟨ga_BadNumber, gt_BadNumber, be_BadNumber, hd_BadNumber, ha_BadNumber, hn_o, ht_o, hm_BadNumber⟩
  have hE_BadNumber : PySem.W.exmOne K (.ref C_BadNumber) (.ref C_SeatError) = some true := PySem.W.exm_ref se_b se_d se_t su_BadNumber
  have kC_BadNumber : KC K C_BadShuns C_BadNumber C_BadSeating C_BadNumber false true false := ⟨ex_BadNumber, kit_own ic_BadShuns ty_BadShuns s_BadNumber_BadShuns s_BadNumber_BadNumber, kit_own ic_BadNumber ty_BadNumber s_BadNumber_BadNumber s_BadNumber_BadNumber, kit_own ic_BadSeating ty_BadSeating s_BadNumber_BadSeating s_BadNumber_BadNumber, kit_ve sv_BadNumber⟩
  have XB : XCls K mg "BadSeating" C_BadSeating := ⟨xe_BadSeating, PySem.W.mg_of X G g_BadSeating, kc_BadSeating, be_BadSeating, ty_BadSeating⟩
  have ex_BadSeating : ExcC K C_BadSeating := ⟨ga_BadSeating, gt_BadSeating, be_BadSeating, hd_BadSeating, ha_BadSeating, hn_o, ht_o, hm_BadSeating⟩
  have hE_BadSeating : PySem.W.exmOne K (.ref C_BadSeating) (.ref C_SeatError) = some true := PySem.W.exm_ref se_b se_d se_t su_BadSeating
  have kC_BadSeating : KC K C_BadShuns C_BadNumber C_BadSeating C_BadSeating false false true := ⟨ex_BadSeating, kit_own ic_BadShuns ty_BadShuns s_BadSeating_BadShuns s_BadSeating_BadSeating, kit_own ic_BadNumber ty_BadNumber s_BadSeating_BadNumber s_BadSeating_BadSeating, kit_own ic_BadSeating ty_BadSeating s_BadSeating_BadSeating s_BadSeating_BadSeating, kit_ve sv_BadSeating⟩
  have D_is_whole : Df l.prog w K mg base CX0 1 "is_whole" f0 _ ["thing"] (spWhole K) := ⟨ok_is_whole (P := l.prog) (w := w) (base := base) F0 B , PySem.W.mg_of X G a0, k0, b0⟩
  have D_check_shuns : Df l.prog w K mg base (L2.CX l.prog w) 2 "check_shuns" f1 _ ["shuns"] (spCheckX K C_BadShuns) := ⟨ok_checkX (P := l.prog) (w := w) (base := base) F1 B XS D_is_whole, PySem.W.mg_of X G a1, k1, b1⟩
  have D_orders_to : Df l.prog w K mg base CX0 1 "orders_to" f2 _ ["many"] (spOrders) := ⟨ok_orders_to (P := l.prog) (w := w) (base := base) F2 B , PySem.W.mg_of X G a2, k2, b2⟩
  have D_with_part : Df l.prog w K mg base CX0 1 "with_part" f3 _ ["sums", "many"] (spWith) := ⟨ok_with_part (P := l.prog) (w := w) (base := base) F3 B , PySem.W.mg_of X G a3, k3, b3⟩
  have D_shunners : Df l.prog w K mg base CX0 1 "shunners" f4 _ ["shuns"] (spShunners) := ⟨ok_shunners (P := l.prog) (w := w) (base := base) F4 B , PySem.W.mg_of X G a4, k4, b4⟩
  have D_sums_of : Df l.prog w K mg base CX0 2 "sums_of" f5 _ ["marks"] (spSums) := ⟨ok_sums_of (P := l.prog) (w := w) (base := base) F5 B D_with_part, PySem.W.mg_of X G a5, k5, b5⟩
  have D_counts : Df l.prog w K mg base (L2.CX l.prog w) 3 "counts" f6 _ ["shuns"] (spCountsX K C_BadShuns) := ⟨ok_countsX (P := l.prog) (w := w) (base := base) F6 B D_check_shuns D_orders_to D_shunners D_sums_of, PySem.W.mg_of X G a6, k6, b6⟩
  have D_seated : Df l.prog w K mg base (L2.CX l.prog w) 3 "seated" f7 _ ["shuns"] (spRef K C_BadShuns) := ⟨ok_seatedX (P := l.prog) (w := w) (base := base) F7 B D_check_shuns, PySem.W.mg_of X G a7, k7, b7⟩
  have D_without_part : Df l.prog w K mg base CX0 1 "without_part" f8 _ ["sums", "many"] (spWithout) := ⟨ok_without_part (P := l.prog) (w := w) (base := base) F8 B , PySem.W.mg_of X G a8, k8, b8⟩
  have D_Hall : Dk l.prog w K mg base CX0 3 "Hall" C_Hall f9 _ ["self", "shuns"] (spInitH C_Hall) := ⟨ok_initH (P := l.prog) (w := w) (base := base) F9 B D_orders_to D_shunners D_sums_of HX, ⟨mk_Hall, a9, i9, kc_Hall⟩, PySem.W.mg_of X G g_Hall, b9⟩
  have D_Hall_ways : Dm l.prog w K mg base CX0 1 "ways" C_Hall f10 _ ["self", "sums", "many"] (spWays C_Hall) := ⟨ok_ways (P := l.prog) (w := w) (base := base) F10 B HX, io_Hall.cl, ⟨a10, i10, k10⟩, b10⟩
  have D_Hall_whole : Dm l.prog w K mg base CX0 2 "whole" C_Hall f11 _ ["self"] (spWholeH C_Hall) := ⟨ok_wholeH (P := l.prog) (w := w) (base := base) F11 B HX D_Hall_ways, io_Hall.cl, ⟨a11, i11, k11⟩, b11⟩
  have D_Hall_turn : Dm l.prog w K mg base CX0 2 "turn" C_Hall f12 _ ["self", "guest"] (spTurn C_Hall) := ⟨ok_turn (P := l.prog) (w := w) (base := base) F12 B HX D_with_part D_without_part, io_Hall.cl, ⟨a12, i12, k12⟩, b12⟩
  have D_Hall_choices : Dm l.prog w K mg base CX0 2 "choices" C_Hall f13 _ ["self", "guest"] (spChoices C_Hall) := ⟨ok_choices (P := l.prog) (w := w) (base := base) F13 B HX D_Hall_ways D_without_part, io_Hall.cl, ⟨a13, i13, k13⟩, b13⟩
  have D_Hall_take : Dm l.prog w K mg base CX0 2 "take" C_Hall f14 _ ["self", "seat"] (spTake C_Hall) := ⟨ok_take (P := l.prog) (w := w) (base := base) F14 B HX D_without_part, io_Hall.cl, ⟨a14, i14, k14⟩, b14⟩
  have D_seating_of : Df l.prog w K mg base (L2.CX l.prog w) 5 "seating_of" f15 _ ["shuns", "number"] (spSeatX K C_BadShuns C_BadNumber) := ⟨ok_seatX (P := l.prog) (w := w) (base := base) F15 B XN D_check_shuns D_is_whole D_Hall D_Hall_whole D_Hall_turn D_Hall_choices D_Hall_take, PySem.W.mg_of X G a15, k15, b15⟩
  have D_is_seating : Df l.prog w K mg base CX0 2 "is_seating" f16 _ ["shuns", "seating"] (spOffX K) := ⟨ok_is_seatingX (P := l.prog) (w := w) (base := base) F16 B D_is_whole, PySem.W.mg_of X G a16, k16, b16⟩
  have D_number_of : Df l.prog w K mg base (L2.CX l.prog w) 3 "number_of" f17 _ ["shuns", "seating"] (spNumX K C_BadShuns C_BadSeating) := ⟨ok_numX (P := l.prog) (w := w) (base := base) F17 B XB D_check_shuns D_is_seating, PySem.W.mg_of X G a17, k17, b17⟩
  have D_law_cell_at : Df l.prog w K mg base CX0 1 "_law_cell_at" f18 _ ["_law_script", "_law_k"] (spCell K) := ⟨ok_cell (P := l.prog) (w := w) (base := base) F18 B , PySem.W.mg_of X G a18, k18, b18⟩
  have D_law_draw : Df l.prog w K mg base CX0 1 "_law_draw" f19 _ ["_law_cell", "_law_k", "_law_many"] (spDraw) := ⟨ok_draw (P := l.prog) (w := w) (base := base) F19 B , PySem.W.mg_of X G a19, k19, b19⟩
  have D_law_shuns : Df l.prog w K mg base CX0 2 "_law_shuns" f20 _ ["_law_script"] (spShuns K) := ⟨ok_shuns (P := l.prog) (w := w) (base := base) F20 B D_law_cell_at D_law_draw, PySem.W.mg_of X G a20, k20, b20⟩
  have D_law_counts : Df l.prog w K mg base CX0 1 "_law_counts" f21 _ ["_law_shuns_here"] (spLawCounts) := ⟨ok_law_counts (P := l.prog) (w := w) (base := base) F21 B , PySem.W.mg_of X G a21, k21, b21⟩
  have D_law_whole : Df l.prog w K mg base CX0 1 "_law_whole" f22 _ ["_law_number"] (spWhole K) := ⟨ok_law_whole (P := l.prog) (w := w) (base := base) F22 B , PySem.W.mg_of X G a22, k22, b22⟩
  have D_law_off : Df l.prog w K mg base CX0 2 "_law_off" f23 _ ["_law_shuns_here", "_law_found"] (spOffX K) := ⟨ok_offX (P := l.prog) (w := w) (base := base) F23 B D_law_whole, PySem.W.mg_of X G a23, k23, b23⟩
  have D_law_with_shuns : Df l.prog w K mg base (L2.CX l.prog w) 6 "_law_with_shuns" f24 _ ["_law_door", "_law_shuns_here"] (spDoor K C_BadShuns) := ⟨ok_door (P := l.prog) (w := w) (base := base) F24 B D_counts D_seated D_seating_of D_number_of, PySem.W.mg_of X G a24, k24, b24⟩
  have FK : ∀ D xs, (SKC K C_BadShuns C_BadNumber C_BadSeating) D xs → FnE l.prog w K mg base 1 f25 _ "_law_error" D xs := fun D xs h => by
    obtain ⟨b1, b2, b3, C, e⟩ := h
    subst e
    exact ok_kinds (P := l.prog) (w := w) (base := base) F25 B (PySem.W.mg_none_of X G z_ValueError) (PySem.W.mg_of X G g_BadShuns) (PySem.W.mg_of X G g_BadNumber) (PySem.W.mg_of X G g_BadSeating) C
  have hS_BadShuns : (SKC K C_BadShuns C_BadNumber C_BadSeating) C_BadShuns ([true, false, false, true].map V.bl) := ⟨_, _, _, kC_BadShuns, rfl⟩
  have hS_BadNumber : (SKC K C_BadShuns C_BadNumber C_BadSeating) C_BadNumber ([false, true, false, true].map V.bl) := ⟨_, _, _, kC_BadNumber, rfl⟩
  have hS_BadSeating : (SKC K C_BadShuns C_BadNumber C_BadSeating) C_BadSeating ([false, false, true, true].map V.bl) := ⟨_, _, _, kC_BadSeating, rfl⟩
  have D_told1 : Df l.prog w K mg base CX0 7 "_law_told" f26 _ ["_law_ask", "_law_one", "_law_other"] (spTold K (SKC K C_BadShuns C_BadNumber C_BadSeating) C_SeatError f24 (spDoor K C_BadShuns)) := ⟨ok_told (P := l.prog) (w := w) (base := base) F26 (D_law_with_shuns.ok.mono (by decide : 6 ≤ 6)) k24 b24 (PySem.W.mg_of X G g_SeatError) FK (PySem.W.mg_of X G a25) k25 b25, PySem.W.mg_of X G a26, k26, b26⟩
  have gf_told1 := PySem.W.mg_of X G a24
  have D_told2 : Df l.prog w K mg base CX0 7 "_law_told" f26 _ ["_law_ask", "_law_one", "_law_other"] (spTold K (SKC K C_BadShuns C_BadNumber C_BadSeating) C_SeatError f15 (spSeatX K C_BadShuns C_BadNumber)) := ⟨ok_told (P := l.prog) (w := w) (base := base) F26 (D_seating_of.ok.mono (by decide : 5 ≤ 6)) k15 b15 (PySem.W.mg_of X G g_SeatError) FK (PySem.W.mg_of X G a25) k25 b25, PySem.W.mg_of X G a26, k26, b26⟩
  have gf_told2 := PySem.W.mg_of X G a15
  have D_told3 : Df l.prog w K mg base CX0 7 "_law_told" f26 _ ["_law_ask", "_law_one", "_law_other"] (spTold K (SKC K C_BadShuns C_BadNumber C_BadSeating) C_SeatError f17 (spNumX K C_BadShuns C_BadSeating)) := ⟨ok_told (P := l.prog) (w := w) (base := base) F26 (D_number_of.ok.mono (by decide : 3 ≤ 6)) k17 b17 (PySem.W.mg_of X G g_SeatError) FK (PySem.W.mg_of X G a25) k25 b25, PySem.W.mg_of X G a26, k26, b26⟩
  have gf_told3 := PySem.W.mg_of X G a17
  have D_law_seatings_right : Df l.prog w K mg base CX0 8 "_law_seatings_right" f27 _ ["_law_shuns_here", "_law_due", "_law_far_here"] (spRight K) := ⟨ok_right (P := l.prog) (w := w) (base := base) F27 B D_law_off D_told3 gf_told3 hS_BadSeating hE_BadSeating, PySem.W.mg_of X G a27, k27, b27⟩
  exact ok_law (P := l.prog) (w := w) (base := base) F28 B D_law_cell_at D_law_shuns D_law_counts D_told1 D_told2 D_law_seatings_right D_counts D_seating_of gf_told1 gf_told2 hS_BadShuns hE_BadShuns hS_BadNumber hE_BadNumber

theorem walk {l : PySem.W.OpenLaw} {q : Program} {loose : List Str} {XP : (Str → Option Value) → Heap → Prop} {YP : World → Heap → Prop} {d : DefRec} {K : Params → PySem.W.Frag} (hn : l.most = some 63) (hdf : d.params.defaults = [])
    (hY : ∀ (w : World) (h : Heap), YP w h → (K w.params).In h)
    (F : ∀ (w : World) (mg : Str → Option Value) (fa : Addr) (h : Heap), (K w.params).In h → h.Ns mainGlobals mg → mg d.name = some (.ref fa) →
      ∃ fd : FuncData, (∀ (s : Shared) (u : Value), BindsTo s fd ⟨[u], []⟩ [("_law_script", u)]) ∧ ∀ base : Heap, (K w.params).In base → base.Ns mainGlobals mg → FnOk l.prog w (K w.params) mg base CX0 9 fa fd ["_law_script"] (spLaw (K w.params))) :
    PySem.W.WalkO q loose XP YP l.row.toRowW d [] (fun f vs => PySem.call f vs) :=
  L2.walk_of (n := 63) (k := 9) (x := "_law_script") (CX := fun _ => CX0) (sp := fun w => spLaw (K w.params)) hn (by decide) hdf ⟨rfl, by decide, by decide⟩ hY F (fun _ _ a ns hl _ hS => ⟨a, ns, rfl, hS, hl, fun _ _ => rfl⟩) fun _ _ _ _ _ z => z
end OfP

open PySem PySem.W PyProof.Rows in
set_option maxRecDepth 100000 in
set_option maxHeartbeats 0 in
theorem PySem.Challenge.cw_offseat_k05_refused_holds : PySem.Challenge.rw_offseat_k05_refused.Holds := by
  w_on; o_law; k_head; (case hw => w_witness2)
  k_fill
  refine OfP.walk (l := PySem.Challenge.rw_offseat_k05_refused) rfl rfl (fun w h Y => PySem.W.kIn_of Y) ?F
  case F =>
    intro w mg fa h KX G hmg
    refine' OfP.all_mk KX G hmg ?g_SeatError ?g_BadShuns ?g_BadNumber ?g_BadSeating ?g_Hall ?a0 ?l0 ?c0 ?k0 ?a1 ?l1 ?c1 ?k1 ?a2 ?l2 ?c2 ?k2 ?a3 ?l3 ?c3 ?k3 ?a4 ?l4 ?c4 ?k4 ?a5 ?l5 ?c5 ?k5 ?a6 ?l6 ?c6 ?k6 ?a7 ?l7 ?c7 ?k7 ?a8 ?l8 ?c8 ?k8 ?a9 ?i9 ?l9 ?c9 ?k9 ?a10 ?i10 ?l10 ?c10 ?k10 ?a11 ?i11 ?l11 ?c11 ?k11 ?a12 ?i12 ?l12 ?c12 ?k12 ?a13 ?i13 ?l13 ?c13 ?k13 ?a14 ?i14 ?l14 ?c14 ?k14 ?a15 ?l15 ?c15 ?k15 ?a16 ?l16 ?c16 ?k16 ?a17 ?l17 ?c17 ?k17 ?a18 ?l18 ?c18 ?k18 ?a19 ?l19 ?c19 ?k19 ?a20 ?l20 ?c20 ?k20 ?a21 ?l21 ?c21 ?k21 ?a22 ?l22 ?c22 ?k22 ?a23 ?l23 ?c23 ?k23 ?a24 ?l24 ?c24 ?k24 ?a25 ?l25 ?c25 ?k25 ?a26 ?l26 ?c26 ?k26 ?a27 ?l27 ?c27 ?k27 ?a28 ?l28 ?c28 ?k28 ?z_len ?z_range ?z_list ?z_isinstance ?z_int ?z_bool ?z_all ?z_any ?z_sum ?z_min ?z_max ?z_sorted ?z_enumerate ?z_zip ?z_reversed ?z_tuple ?hn_o ?ht_o ?pg_Hall ?hd_Hall ?po_Hall ?sa_Hall ?mk_Hall ?kc_Hall ?ha_Hall ?hm_Hall ?nh_shuns ?nh_orders ?nh_marks ?nh_sums ?nh_seats ?z_ValueError ?se_b ?se_d ?se_t ?xe_BadShuns ?kc_BadShuns ?be_BadShuns ?ty_BadShuns ?ga_BadShuns ?gt_BadShuns ?hd_BadShuns ?ha_BadShuns ?hm_BadShuns ?ic_BadShuns ?su_BadShuns ?sv_BadShuns ?xe_BadNumber ?kc_BadNumber ?be_BadNumber ?ty_BadNumber ?ga_BadNumber ?gt_BadNumber ?hd_BadNumber ?ha_BadNumber ?hm_BadNumber ?ic_BadNumber ?su_BadNumber ?sv_BadNumber ?xe_BadSeating ?kc_BadSeating ?be_BadSeating ?ty_BadSeating ?ga_BadSeating ?gt_BadSeating ?hd_BadSeating ?ha_BadSeating ?hm_BadSeating ?ic_BadSeating ?su_BadSeating ?sv_BadSeating ?s_BadShuns_BadShuns ?s_BadShuns_BadNumber ?s_BadShuns_BadSeating ?s_BadNumber_BadShuns ?s_BadNumber_BadNumber ?s_BadNumber_BadSeating ?s_BadSeating_BadShuns ?s_BadSeating_BadNumber ?s_BadSeating_BadSeating
    (case g_SeatError => k_is)
    (case g_BadShuns => k_is)
    (case g_BadNumber => k_is)
    (case g_BadSeating => k_is)
    (case g_Hall => k_is)
    (case a0 => k_is)
    (case l0 => k_is)
    (case c0 => k_is)
    (case k0 => k_is)
    (case a1 => k_is)
    (case l1 => k_is)
    (case c1 => k_is)
    (case k1 => k_is)
    (case a2 => k_is)
    (case l2 => k_is)
    (case c2 => k_is)
    (case k2 => k_is)
    (case a3 => k_is)
    (case l3 => k_is)
    (case c3 => k_is)
    (case k3 => k_is)
    (case a4 => k_is)
    (case l4 => k_is)
    (case c4 => k_is)
    (case k4 => k_is)
    (case a5 => k_is)
    (case l5 => k_is)
    (case c5 => k_is)
    (case k5 => k_is)
    (case a6 => k_is)
    (case l6 => k_is)
    (case c6 => k_is)
    (case k6 => k_is)
    (case a7 => k_is)
    (case l7 => k_is)
    (case c7 => k_is)
    (case k7 => k_is)
    (case a8 => k_is)
    (case l8 => k_is)
    (case c8 => k_is)
    (case k8 => k_is)
    (case a9 => k_is)
    (case i9 => k_is)
    (case l9 => k_is)
    (case c9 => k_is)
    (case k9 => k_is)
    (case a10 => k_is)
    (case i10 => k_is)
    (case l10 => k_is)
    (case c10 => k_is)
    (case k10 => k_is)
    (case a11 => k_is)
    (case i11 => k_is)
    (case l11 => k_is)
    (case c11 => k_is)
    (case k11 => k_is)
    (case a12 => k_is)
    (case i12 => k_is)
    (case l12 => k_is)
    (case c12 => k_is)
    (case k12 => k_is)
    (case a13 => k_is)
    (case i13 => k_is)
    (case l13 => k_is)
    (case c13 => k_is)
    (case k13 => k_is)
    (case a14 => k_is)
    (case i14 => k_is)
    (case l14 => k_is)
    (case c14 => k_is)
    (case k14 => k_is)
    (case a15 => k_is)
    (case l15 => k_is)
    (case c15 => k_is)
    (case k15 => k_is)
    (case a16 => k_is)
    (case l16 => k_is)
    (case c16 => k_is)
    (case k16 => k_is)
    (case a17 => k_is)
    (case l17 => k_is)
    (case c17 => k_is)
    (case k17 => k_is)
    (case a18 => k_is)
    (case l18 => k_is)
    (case c18 => k_is)
    (case k18 => k_is)
    (case a19 => k_is)
    (case l19 => k_is)
    (case c19 => k_is)
    (case k19 => k_is)
    (case a20 => k_is)
    (case l20 => k_is)
    (case c20 => k_is)
    (case k20 => k_is)
    (case a21 => k_is)
    (case l21 => k_is)
    (case c21 => k_is)
    (case k21 => k_is)
    (case a22 => k_is)
    (case l22 => k_is)
    (case c22 => k_is)
    (case k22 => k_is)
    (case a23 => k_is)
    (case l23 => k_is)
    (case c23 => k_is)
    (case k23 => k_is)
    (case a24 => k_is)
    (case l24 => k_is)
    (case c24 => k_is)
    (case k24 => k_is)
    (case a25 => k_is)
    (case l25 => k_is)
    (case c25 => k_is)
    (case k25 => k_is)
    (case a26 => k_is)
    (case l26 => k_is)
    (case c26 => k_is)
    (case k26 => k_is)
    (case a27 => k_is)
    (case l27 => k_is)
    (case c27 => k_is)
    (case k27 => k_is)
    (case a28 => k_is)
    (case l28 => k_is)
    (case c28 => k_is)
    (case k28 => k_is)
    (case z_len => k_is)
    (case z_range => k_is)
    (case z_list => k_is)
    (case z_isinstance => k_is)
    (case z_int => k_is)
    (case z_bool => k_is)
    (case z_all => k_is)
    (case z_any => k_is)
    (case z_sum => k_is)
    (case z_min => k_is)
    (case z_max => k_is)
    (case z_sorted => k_is)
    (case z_enumerate => k_is)
    (case z_zip => k_is)
    (case z_reversed => k_is)
    (case z_tuple => k_is)
    (case hn_o => k_is)
    (case ht_o => k_is)
    (case pg_Hall => k_is)
    (case hd_Hall => k_is)
    (case po_Hall => k_is)
    (case sa_Hall => k_is)
    (case mk_Hall => k_is)
    (case kc_Hall => k_is)
    (case ha_Hall => k_is)
    (case hm_Hall => k_is)
    (case nh_shuns => k_is)
    (case nh_orders => k_is)
    (case nh_marks => k_is)
    (case nh_sums => k_is)
    (case nh_seats => k_is)
    (case z_ValueError => k_is)
    (case se_b => k_is)
    (case se_d => k_is)
    (case se_t => k_is)
    (case xe_BadShuns => k_exc)
    (case kc_BadShuns => k_is)
    (case be_BadShuns => k_is)
    (case ty_BadShuns => k_is)
    (case ga_BadShuns => k_is)
    (case gt_BadShuns => k_is)
    (case hd_BadShuns => k_is)
    (case ha_BadShuns => k_is)
    (case hm_BadShuns => k_is)
    (case ic_BadShuns => k_is)
    (case su_BadShuns => k_is)
    (case sv_BadShuns => k_is)
    (case xe_BadNumber => k_exc)
    (case kc_BadNumber => k_is)
    (case be_BadNumber => k_is)
    (case ty_BadNumber => k_is)
    (case ga_BadNumber => k_is)
    (case gt_BadNumber => k_is)
    (case hd_BadNumber => k_is)
    (case ha_BadNumber => k_is)
    (case hm_BadNumber => k_is)
    (case ic_BadNumber => k_is)
    (case su_BadNumber => k_is)
    (case sv_BadNumber => k_is)
    (case xe_BadSeating => k_exc)
    (case kc_BadSeating => k_is)
    (case be_BadSeating => k_is)
    (case ty_BadSeating => k_is)
    (case ga_BadSeating => k_is)
    (case gt_BadSeating => k_is)
    (case hd_BadSeating => k_is)
    (case ha_BadSeating => k_is)
    (case hm_BadSeating => k_is)
    (case ic_BadSeating => k_is)
    (case su_BadSeating => k_is)
    (case sv_BadSeating => k_is)
    (case s_BadShuns_BadShuns => k_is)
    (case s_BadShuns_BadNumber => k_is)
    (case s_BadShuns_BadSeating => k_is)
    (case s_BadNumber_BadShuns => k_is)
    (case s_BadNumber_BadNumber => k_is)
    (case s_BadNumber_BadSeating => k_is)
    (case s_BadSeating_BadShuns => k_is)
    (case s_BadSeating_BadNumber => k_is)
    (case s_BadSeating_BadSeating => k_is)
#print axioms PySem.Challenge.cw_offseat_k05_refused_holds

