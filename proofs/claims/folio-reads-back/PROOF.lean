import PyProof.Rows.All
import Wide.All
import OpenK.AllK
import Wide.FinOn
import HandS.ForMost
import HandS.Exc
import HandS.IsInst
import HandS.Style
import HandS.StrMore
import HandS.TryMany
import HandS.TupLen
import HandS.DictTup
import PyProof.DictMoreH
import PySem.Challenge.RW_cellfolio_k35_whole_a_folio_reads_back
set_option Elab.async false
set_option linter.all false
set_option autoImplicit false
set_option maxRecDepth 100000
set_option maxHeartbeats 4000000
namespace Cf

/-! ### signs and numbers -/
/-- the codes of the container's signs -/
def sigs : List Nat := [48, 49, 50, 51, 52, 53, 54, 55, 56, 57, 97, 98, 99, 100, 101, 102, 103, 104, 105, 106, 107, 108, 109, 110, 111, 112, 113, 114, 115, 116, 117, 118, 119, 120, 121, 122, 65, 66, 67, 68, 69, 70, 71, 72, 73, 74, 75, 76, 77, 78, 79, 80, 81, 82, 83, 84, 85, 86, 87, 88, 89, 90, 43, 45]
def sign (i : Int) : Nat := sigs.getD i.toNat 0
def num (c : Nat) : Int := ((sigs.idxOf c : Nat) : Int)
theorem sigs_len : sigs.length = 64 := by decide
theorem num_sign {i : Int} (h0 : 0 ≤ i) (h1 : i ≤ 63) : num (sign i) = i := by
  have h : ∀ k : _root_.Fin 64, num (sign ((k.val : Nat) : Int)) = ((k.val : Nat) : Int) := by decide +kernel
  have := h ⟨i.toNat, by omega⟩
  have e : ((i.toNat : Nat) : Int) = i := by omega
  rw [e] at this
  exact this
theorem sign_mem {i : Int} (h0 : 0 ≤ i) (h1 : i ≤ 63) : sign i ∈ sigs := by
  have h : ∀ k : _root_.Fin 64, sign ((k.val : Nat) : Int) ∈ sigs := by decide +kernel
  have := h ⟨i.toNat, by omega⟩
  have e : ((i.toNat : Nat) : Int) = i := by omega
  rw [e] at this
  exact this
theorem num_all : ∀ c ∈ sigs, (num c ≤ 63 ∧ sign (num c) = c) := by decide +kernel
theorem num_nn (c : Nat) : 0 ≤ num c := by unfold num; omega
theorem num_le {c : Nat} (h : c ∈ sigs) : num c ≤ 63 := (num_all c h).1
theorem sign_num {c : Nat} (h : c ∈ sigs) : sign (num c) = c := (num_all c h).2
theorem sign_at {i : Int} (h0 : 0 ≤ i) (h1 : i ≤ 63) : sigs[i.toNat]? = some (sign i) := by
  have hl : i.toNat < sigs.length := by rw [sigs_len]; omega
  unfold sign
  rw [List.getD_eq_getElem?_getD, List.getElem?_eq_getElem hl]
  rfl
theorem small_mem {c : Nat} (h1 : 97 ≤ c) (h2 : c ≤ 122) : c ∈ sigs := by
  have h : ∀ k : _root_.Fin 26, 97 + k.val ∈ sigs := by decide +kernel
  have := h ⟨c - 97, by omega⟩
  have e : 97 + (c - 97) = c := by omega
  rw [show (97 + (⟨c - 97, by omega⟩ : _root_.Fin 26).val) = c from e] at this
  exact this

/-! ### parts -/
structure Pt where
  k : Nat
  n : List Nat
  xs : List Int
  deriving DecidableEq
def Small (c : Nat) : Prop := 97 ≤ c ∧ c ≤ 122
structure Good (p : Pt) : Prop where
  k : Small p.k
  n1 : 1 ≤ p.n.length
  n8 : p.n.length ≤ 8
  ns : ∀ c ∈ p.n, Small c
  xs : ∀ x ∈ p.xs, 0 ≤ x ∧ x ≤ 63
  len : p.xs.length ≤ 2000
theorem Small.mem {c : Nat} (h : Small c) : c ∈ sigs := small_mem h.1 h.2
/-- kind and name -/
def key (p : Pt) : Nat × List Nat := (p.k, p.n)
def two (z : Int) : List Int := [z / 64, z % 64]
def partNums (p : Pt) : List Int := num p.k :: (p.n.length : Int) :: (p.n.map num ++ (two (p.xs.length : Int) ++ p.xs))
theorem partNums_len (p : Pt) : (partNums p).length = 4 + p.n.length + p.xs.length := by
  unfold partNums two
  simp only [List.length_cons, List.length_append, List.length_map, List.length_nil]
  omega
def Six (l : List Int) : Prop := ∀ x ∈ l, 0 ≤ x ∧ x ≤ 63
theorem Six.nil : Six [] := fun x h => by cases h
theorem Six.cons {x : Int} {l : List Int} (h : 0 ≤ x ∧ x ≤ 63) (r : Six l) : Six (x :: l) := fun y hy => by
  rcases List.mem_cons.mp hy with rfl | hy
  · exact h
  · exact r y hy
theorem Six.app {l m : List Int} (a : Six l) (b : Six m) : Six (l ++ m) := fun x h => by
  rcases List.mem_append.mp h with h | h
  · exact a x h
  · exact b x h
theorem Six.two {z : Int} (h0 : 0 ≤ z) (h1 : z < 4096) : Six (two z) := .cons (by omega) (.cons (by omega) .nil)
theorem Good.six {p : Pt} (g : Good p) : Six (partNums p) := by
  unfold partNums
  refine .cons ⟨num_nn _, num_le g.k.mem⟩ (.cons ⟨by omega, ?_⟩ (.app (fun x hx => ?_) (.app (.two (by omega) ?_) g.xs)))
  · have := g.n8; omega
  · obtain ⟨c, hc, rfl⟩ := List.mem_map.mp hx
    exact ⟨num_nn _, num_le (g.ns c hc).mem⟩
  · have := g.len; omega

/-! ### the check -/
def wsum : Int → List Int → Int
  | _, [] => 0
  | i, x :: r => (i + 1) * x + wsum (i + 1) r
theorem wsum_app (l m : List Int) : ∀ i : Int, wsum i (l ++ m) = wsum i l + wsum (i + l.length) m := by
  induction l with
  | nil => intro i; simp [wsum]
  | cons x r ih =>
    intro i
    show (i + 1) * x + wsum (i + 1) (r ++ m) = (i + 1) * x + wsum (i + 1) r + wsum (i + ((r.length + 1 : Nat) : Int)) m
    rw [ih (i + 1)]
    have : i + 1 + (r.length : Int) = i + ((r.length + 1 : Nat) : Int) := by omega
    rw [this]
    omega
theorem wsum_take {l : List Int} {i : Nat} {x : Int} (h : l[i]? = some x) : wsum 0 (l.take (i + 1)) = wsum 0 (l.take i) + ((i : Int) + 1) * x := by
  have hi : i < l.length := (List.getElem?_eq_some_iff.mp h).1
  rw [List.take_add_one, h, wsum_app]
  have e : ((l.take i).length : Int) = i := by rw [List.length_take]; omega
  rw [e]
  show _ = _
  simp only [Option.toList, wsum]
  have e2 : (0 : Int) + (i : Int) + 1 = (i : Int) + 1 := by omega
  rw [e2]
  omega
def chk (l : List Int) : Int := wsum 0 l % 4093
theorem chk_nn (l : List Int) : 0 ≤ chk l := Int.emod_nonneg _ (by decide)
theorem chk_lt (l : List Int) : chk l < 4093 := Int.emod_lt_of_pos _ (by decide)

/-! ### folios -/
def flat (ps : List Pt) : List Int := ps.flatMap partNums
def nums (ps : List Pt) : List Int := 38 :: 41 :: 1 :: (two (ps.length : Int) ++ flat ps)
def whole (ps : List Pt) : List Int := nums ps ++ two (chk (nums ps))
def text (ps : List Pt) : List Nat := (whole ps).map sign
def size (ps : List Pt) : Int := 7 + ((flat ps).length : Int)
theorem flat_nil : flat [] = [] := rfl
theorem flat_snoc (ps : List Pt) (p : Pt) : flat (ps ++ [p]) = flat ps ++ partNums p := by
  unfold flat
  rw [List.flatMap_append]
  simp
theorem flat_app (ps qs : List Pt) : flat (ps ++ qs) = flat ps ++ flat qs := by
  unfold flat
  rw [List.flatMap_append]
theorem flat_take {ps : List Pt} {i : Nat} {p : Pt} (h : ps[i]? = some p) : flat (ps.take (i + 1)) = flat (ps.take i) ++ partNums p := by
  rw [List.take_add_one, h]
  exact flat_snoc _ _
theorem size_nil : size [] = 7 := rfl
theorem size_snoc (ps : List Pt) (p : Pt) : size (ps ++ [p]) = size ps + ((partNums p).length : Int) := by
  unfold size
  rw [flat_snoc, List.length_append]
  omega
theorem nums_len (ps : List Pt) : (nums ps).length = 5 + (flat ps).length := by
  unfold nums two
  simp only [List.length_cons, List.length_append, List.length_nil]
  omega
theorem whole_len (ps : List Pt) : (whole ps).length = 7 + (flat ps).length := by
  unfold whole
  rw [List.length_append, nums_len]
  show _ + 2 = _
  omega
theorem text_len (ps : List Pt) : (text ps).length = 7 + (flat ps).length := by
  unfold text
  rw [List.length_map, whole_len]
theorem flat_six {ps : List Pt} (g : ∀ p ∈ ps, Good p) : Six (flat ps) := fun x hx => by
  obtain ⟨p, hp, h⟩ := List.mem_flatMap.mp hx
  exact (g p hp).six x h
theorem nums_six {ps : List Pt} (g : ∀ p ∈ ps, Good p) (hl : ps.length < 4096) : Six (nums ps) :=
  .cons (by decide) (.cons (by decide) (.cons (by decide) (.app (.two (by omega) (by omega)) (flat_six g))))
theorem whole_six {ps : List Pt} (g : ∀ p ∈ ps, Good p) (hl : ps.length < 4096) : Six (whole ps) :=
  .app (nums_six g hl) (.two (chk_nn _) (by have := chk_lt (nums ps); omega))
theorem num_signs : ∀ {l : List Int}, Six l → (l.map sign).map num = l
  | [], _ => rfl
  | x :: r, h => by
    show num (sign x) :: (r.map sign).map num = x :: r
    rw [num_sign (h x List.mem_cons_self).1 (h x List.mem_cons_self).2, num_signs fun y hy => h y (List.mem_cons_of_mem _ hy)]
theorem text_nums {ps : List Pt} (g : ∀ p ∈ ps, Good p) (hl : ps.length < 4096) : (text ps).map num = whole ps := num_signs (whole_six g hl)
theorem text_mem {ps : List Pt} (g : ∀ p ∈ ps, Good p) (hl : ps.length < 4096) : ∀ c ∈ text ps, c ∈ sigs := fun c hc => by
  obtain ⟨x, hx, rfl⟩ := List.mem_map.mp hc
  have := whole_six g hl x hx
  exact sign_mem this.1 this.2
theorem text_head (ps : List Pt) : (text ps).take 3 = [67, 70, 49] := rfl
theorem one_two {z : Int} (h : 0 ≤ z) : z / 64 * 64 + z % 64 = z := by omega

/-- what a folio may hold -/
structure OK (ps : List Pt) : Prop where
  good : ∀ p ∈ ps, Good p
  nd : (ps.map key).Nodup
  size : size ps ≤ 3900
theorem four_le (p : Pt) (g : Good p) : 5 ≤ (partNums p).length := by rw [partNums_len]; have := g.n1; omega
theorem flat_big : ∀ {ps : List Pt}, (∀ p ∈ ps, Good p) → 5 * ps.length ≤ (flat ps).length
  | [], _ => Nat.le_refl _
  | p :: r, g => by
    have h1 := four_le p (g p List.mem_cons_self)
    have h2 := flat_big (ps := r) fun q hq => g q (List.mem_cons_of_mem _ hq)
    show 5 * (r.length + 1) ≤ (partNums p ++ flat r).length
    rw [List.length_append]
    omega
theorem OK.len {ps : List Pt} (h : OK ps) : ps.length < 1000 := by
  have h1 := flat_big h.good
  have h2 := h.size
  unfold Cf.size at h2
  omega
theorem OK.flat {ps : List Pt} (h : OK ps) : (flat ps).length ≤ 3893 := by
  have h2 := h.size
  unfold Cf.size at h2
  omega
end Cf
namespace Cf

/-! ### what the law draws -/
def cellAt (ns : List Int) (k : Nat) : Int := ns.getD k 0
def mix0 (c k : Int) : Int := (c * 48271 + 7919 * k + 12345) % 2147483647
def mixed (c k : Int) : Int := mix0 c k * mix0 c k % 2147483647 * mix0 c k % 2147483647
theorem mix0_b (c k : Int) : 0 ≤ mix0 c k ∧ mix0 c k < 2147483647 := ⟨Int.emod_nonneg _ (by decide), Int.emod_lt_of_pos _ (by decide)⟩
theorem mixed_nn (c k : Int) : 0 ≤ mixed c k := Int.emod_nonneg _ (by decide)
theorem mixed_lt (c k : Int) : mixed c k < 2147483647 := Int.emod_lt_of_pos _ (by decide)
/-- the letter at a place -/
def letter (i : Int) : Nat := 97 + i.toNat
def lname (c : Int) : List Nat := (List.range (1 + c % 8).toNat).map fun j => letter (mixed c (j : Nat) / 8 % 26)
def lnames (m : Int) : List (List Nat) := (List.range 3).map fun k => lname (mixed m (70 + (k : Nat)))
def pcd (i : Int) : Nat := if i = 0 then 112 else if i = 1 then 99 else 100
def lmany (c : Int) : Int := if c / 10 % 40 = 3 then 60 + c / 400 % 200 else c % 10
def lxs (c : Int) : List Int := (List.range (lmany c).toNat).map fun j => mixed c (j : Nat) / 16 % 64
def lpart (names : List (List Nat)) (c : Int) : Pt := ⟨pcd (c / 7 % 3), names.getD (c / 21 % 3).toNat [], lxs c⟩
def ladd (acc : List Pt) (p : Pt) : List Pt := if acc.all (fun q => decide (key q ≠ key p)) = true then acc ++ [p] else acc
def lcell (ns : List Int) (k : Nat) : Int := mixed (cellAt ns (1 + k)) (k : Nat)
def lupto (ns : List Int) (names : List (List Nat)) : Nat → List Pt
  | 0 => []
  | i + 1 => ladd (lupto ns names i) (lpart names (lcell ns i))
def lnum (ns : List Int) : Int := mixed (cellAt ns 0) 0
def lparts (ns : List Int) : List Pt := lupto ns (lnames (lnum ns)) (lnum ns % 7).toNat

theorem letter_small {i : Int} (h : i < 26) (h0 : 0 ≤ i) : Small (letter i) := by unfold Small letter; omega
theorem lname_len (c : Int) : (lname c).length = (1 + c % 8).toNat := by unfold lname; rw [List.length_map, List.length_range]
theorem lname_ok (c : Int) : 1 ≤ (lname c).length ∧ (lname c).length ≤ 8 ∧ ∀ x ∈ lname c, Small x := by
  rw [lname_len]
  refine ⟨by omega, by omega, fun x hx => ?_⟩
  obtain ⟨j, _, rfl⟩ := List.mem_map.mp hx
  exact letter_small (Int.emod_lt_of_pos _ (by decide)) (Int.emod_nonneg _ (by decide))
theorem lnames_len (m : Int) : (lnames m).length = 3 := by unfold lnames; rw [List.length_map, List.length_range]
theorem lnames_ok (m : Int) : ∀ x ∈ lnames m, 1 ≤ x.length ∧ x.length ≤ 8 ∧ ∀ c ∈ x, Small c := fun x hx => by
  obtain ⟨j, _, rfl⟩ := List.mem_map.mp hx
  exact lname_ok _
theorem pcd_ok (i : Int) : pcd i = 112 ∨ pcd i = 99 ∨ pcd i = 100 := by
  unfold pcd
  split
  · exact .inl rfl
  · split
    · exact .inr (.inl rfl)
    · exact .inr (.inr rfl)
def Pcd (p : Pt) : Prop := p.k = 112 ∨ p.k = 99 ∨ p.k = 100
theorem Pcd.small {p : Pt} (h : Pcd p) : Small p.k := by
  unfold Small
  rcases h with h | h | h <;> omega
theorem lmany_b (c : Int) : 0 ≤ lmany c ∧ lmany c ≤ 259 := by unfold lmany; split <;> omega
theorem lxs_len (c : Int) : (lxs c).length = (lmany c).toNat := by unfold lxs; rw [List.length_map, List.length_range]
theorem getD_mem {α : Type} {l : List α} {i : Nat} {d : α} (h : i < l.length) : l.getD i d ∈ l := by
  rw [List.getD_eq_getElem?_getD, List.getElem?_eq_getElem h]
  exact List.getElem_mem h
theorem lpart_good {names : List (List Nat)} (hn : names.length = 3) (h : ∀ x ∈ names, 1 ≤ x.length ∧ x.length ≤ 8 ∧ ∀ c ∈ x, Small c) (c : Int) : Good (lpart names c) ∧ Pcd (lpart names c) ∧ (lpart names c).xs.length ≤ 259 := by
  have hp : Pcd (lpart names c) := pcd_ok _
  have hm : names.getD (c / 21 % 3).toNat [] ∈ names := getD_mem (by omega)
  have h3 := h _ hm
  have hl : (lpart names c).xs.length ≤ 259 := by
    show (lxs c).length ≤ 259
    rw [lxs_len]
    have := lmany_b c
    omega
  refine ⟨⟨hp.small, h3.1, h3.2.1, h3.2.2, fun x hx => ?_, by omega⟩, hp, hl⟩
  have hx' : x ∈ lxs c := hx
  obtain ⟨j, _, rfl⟩ := List.mem_map.mp hx'
  omega
structure LOK (ps : List Pt) (n : Nat) : Prop where
  good : ∀ p ∈ ps, Good p
  pcd : ∀ p ∈ ps, Pcd p
  nd : (ps.map key).Nodup
  flat : (flat ps).length ≤ n
theorem nodup_snoc {α : Type} {l : List α} {x : α} (h : l.Nodup) (hx : x ∉ l) : (l ++ [x]).Nodup := by
  rw [List.nodup_append]
  refine ⟨h, by simp, fun a ha b hb => ?_⟩
  rw [List.mem_singleton] at hb
  subst hb
  exact fun e => hx (e ▸ ha)
theorem ladd_ok {acc : List Pt} {p : Pt} {n : Nat} (h : LOK acc n) (g : Good p) (hp : Pcd p) (hl : p.xs.length ≤ 259) : LOK (ladd acc p) (n + 271) := by
  unfold ladd
  split
  · rename_i e
    have e' := List.all_eq_true.mp e
    refine ⟨fun q hq => ?_, fun q hq => ?_, ?_, ?_⟩
    · rcases List.mem_append.mp hq with hq | hq
      · exact h.good q hq
      · rw [List.mem_singleton] at hq; subst hq; exact g
    · rcases List.mem_append.mp hq with hq | hq
      · exact h.pcd q hq
      · rw [List.mem_singleton] at hq; subst hq; exact hp
    · rw [List.map_append]
      refine nodup_snoc h.nd fun hm => ?_
      obtain ⟨q, hq, eq⟩ := List.mem_map.mp hm
      exact (of_decide_eq_true (e' q hq)) eq
    · rw [flat_snoc, List.length_append, partNums_len]
      have := h.flat
      have := g.n8
      omega
  · exact ⟨h.good, h.pcd, h.nd, by have := h.flat; omega⟩
theorem lupto_ok (ns : List Int) {names : List (List Nat)} (hn : names.length = 3) (h : ∀ x ∈ names, 1 ≤ x.length ∧ x.length ≤ 8 ∧ ∀ c ∈ x, Small c) : ∀ i : Nat, LOK (lupto ns names i) (i * 271) ∧ (lupto ns names i).length ≤ i
  | 0 => ⟨⟨fun p hp => (by cases hp), fun p hp => (by cases hp), List.nodup_nil, Nat.le_refl _⟩, Nat.le_refl _⟩
  | i + 1 => by
    have ih := lupto_ok ns hn h i
    have g := lpart_good hn h (lcell ns i)
    have a := ladd_ok ih.1 g.1 g.2.1 g.2.2
    have e : (i + 1) * 271 = i * 271 + 271 := by omega
    rw [e]
    refine ⟨a, ?_⟩
    show (ladd (lupto ns names i) (lpart names (lcell ns i))).length ≤ i + 1
    unfold ladd
    split
    · rw [List.length_append]
      show _ + 1 ≤ i + 1
      have := ih.2
      omega
    · have := ih.2
      omega
theorem lparts_ok (ns : List Int) : LOK (lparts ns) 3000 := by
  have h := (lupto_ok ns (lnames_len (lnum ns)) (lnames_ok (lnum ns)) (lnum ns % 7).toNat).1
  exact ⟨h.good, h.pcd, h.nd, Nat.le_trans h.flat (by omega)⟩

/-! ### many parts -/
def mname (c : Int) (k : Nat) : List Nat := [letter ((k : Int) / 3 % 8), letter (((k : Int) / 24 + c / 7) % 8)]
def mpart (c : Int) (k : Nat) : Pt := ⟨pcd ((k : Int) % 3), mname c k, []⟩
def mnames (c : Int) : List (List Nat) := (List.range (64 + c % 7).toNat).map (mname c)
def many (c : Int) : List Pt := (List.range (64 + c % 7).toNat).map (mpart c)
theorem mpart_good (c : Int) (k : Nat) : Good (mpart c k) ∧ Pcd (mpart c k) := by
  have hp : Pcd (mpart c k) := pcd_ok _
  refine ⟨⟨hp.small, ?_, ?_, fun x hx => ?_, fun x hx => ?_, ?_⟩, hp⟩
  · show 1 ≤ 2; decide
  · show 2 ≤ 8; decide
  · have hx' : x ∈ mname c k := hx
    unfold mname at hx'
    rcases List.mem_cons.mp hx' with rfl | hx'
    · exact letter_small (by omega) (by omega)
    · rcases List.mem_cons.mp hx' with rfl | hx'
      · exact letter_small (by omega) (by omega)
      · cases hx'
  · have hx' : x ∈ ([] : List Int) := hx
    cases hx'
  · exact Nat.zero_le _
theorem pcd_inj {i j : Int} (hi : 0 ≤ i) (hi' : i < 3) (hj : 0 ≤ j) (hj' : j < 3) (h : pcd i = pcd j) : i = j := by
  unfold pcd at h
  split at h <;> split at h <;> (try split at h) <;> (try split at h) <;> omega
theorem mpart_inj {c : Int} {k l : Nat} (hk : k < 71) (hl : l < 71) (h : key (mpart c k) = key (mpart c l)) : k = l := by
  have h1 : pcd ((k : Int) % 3) = pcd ((l : Int) % 3) := congrArg (·.1) h
  have h2 : mname c k = mname c l := congrArg (·.2) h
  have e1 := pcd_inj (by omega) (by omega) (by omega) (by omega) h1
  unfold mname at h2
  injection h2 with h3 h4
  injection h4 with h5 _
  unfold letter at h3 h5
  omega
theorem nodup_map_on {α β : Type} {f : α → β} : ∀ {l : List α}, l.Nodup → (∀ a ∈ l, ∀ b ∈ l, f a = f b → a = b) → (l.map f).Nodup
  | [], _, _ => List.nodup_nil
  | x :: r, h, hf => by
    rw [List.nodup_cons] at h
    show (f x :: r.map f).Nodup
    rw [List.nodup_cons]
    refine ⟨fun hm => ?_, nodup_map_on h.2 fun a ha b hb => hf a (List.mem_cons_of_mem _ ha) b (List.mem_cons_of_mem _ hb)⟩
    obtain ⟨y, hy, e⟩ := List.mem_map.mp hm
    have := hf y (List.mem_cons_of_mem _ hy) x List.mem_cons_self e
    exact h.1 (this ▸ hy)
theorem flat_same {n : Nat} : ∀ {ps : List Pt}, (∀ p ∈ ps, (partNums p).length ≤ n) → (flat ps).length ≤ n * ps.length
  | [], _ => Nat.zero_le _
  | p :: r, h => by
    show (partNums p ++ flat r).length ≤ n * (r.length + 1)
    rw [List.length_append]
    have h1 := h p List.mem_cons_self
    have h2 := flat_same (n := n) (ps := r) fun q hq => h q (List.mem_cons_of_mem _ hq)
    have h3 : n * (r.length + 1) = n * r.length + n := by rw [Nat.mul_add, Nat.mul_one]
    omega
theorem many_ok (c : Int) : LOK (many c) 3000 := by
  refine ⟨fun p hp => ?_, fun p hp => ?_, ?_, ?_⟩
  · obtain ⟨k, _, rfl⟩ := List.mem_map.mp hp
    exact (mpart_good c k).1
  · obtain ⟨k, _, rfl⟩ := List.mem_map.mp hp
    exact (mpart_good c k).2
  · unfold many
    rw [List.map_map]
    refine nodup_map_on List.nodup_range fun a ha b hb e => ?_
    have ha' := List.mem_range.mp ha
    have hb' := List.mem_range.mp hb
    exact mpart_inj (c := c) (by omega) (by omega) e
  · have h := flat_same (n := 6) (ps := many c) fun p hp => by
      obtain ⟨k, _, rfl⟩ := List.mem_map.mp hp
      rw [partNums_len]
      exact Nat.le_refl _
    have hl : (many c).length ≤ 70 := by unfold many; rw [List.length_map, List.length_range]; omega
    omega

/-! ### what the law works on -/
def lawCell (ns : List Int) : Int := mixed (cellAt ns 8) 8
def lawParts (ns : List Int) : List Pt := if lawCell ns / 28 % 40 = 3 then many (lawCell ns / 1120) else lparts ns
theorem lawParts_ok (ns : List Int) : LOK (lawParts ns) 3000 := by
  unfold lawParts
  split
  · exact many_ok _
  · exact lparts_ok _
theorem LOK.ok {ps : List Pt} {n : Nat} (h : LOK ps n) (hn : n ≤ 3893) : OK ps := ⟨h.good, h.nd, by have := h.flat; unfold Cf.size; omega⟩
def other (ns : List Int) : List Pt := (lawParts ns).drop (lawCell ns % ((lawParts ns).length + 1 : Nat)).toNat ++ (lawParts ns).take (lawCell ns % ((lawParts ns).length + 1 : Nat)).toNat
theorem LOK.turn {ps : List Pt} {n : Nat} (h : LOK ps n) (i : Nat) : LOK (ps.drop i ++ ps.take i) n := by
  have hp : (ps.drop i ++ ps.take i).Perm ps := by
    have := List.perm_append_comm (l₁ := ps.drop i) (l₂ := ps.take i)
    rw [List.take_append_drop] at this
    exact this
  refine ⟨fun p hq => h.good p (hp.mem_iff.mp hq), fun p hq => h.pcd p (hp.mem_iff.mp hq), (hp.map key).nodup_iff.mpr h.nd, ?_⟩
  have e : (Cf.flat (ps.drop i ++ ps.take i)).length = (Cf.flat ps).length := by
    rw [flat_app, List.length_append]
    have e2 : Cf.flat ps = Cf.flat (ps.take i) ++ Cf.flat (ps.drop i) := by rw [← flat_app, List.take_append_drop]
    rw [e2, List.length_append]
    omega
  rw [e]
  exact h.flat

/-! ### a part less, one more -/
def zpart (c : Int) : Pt := ⟨122, [122, 122], [c % 64]⟩
def cutAt (ps : List Pt) (c : Int) : Nat := (c % (ps.length : Int)).toNat
def moved0 (ps : List Pt) (c : Int) : List Pt :=
  match ps[cutAt ps c]? with
  | none => ps
  | some p => if c / 7 % 2 = 1 then ps.eraseIdx (cutAt ps c) ++ [p] else ps.eraseIdx (cutAt ps c)
def moved (ps : List Pt) (c : Int) : List Pt := moved0 ps c ++ [zpart c]
theorem zpart_good (c : Int) : Good (zpart c) := by
  refine ⟨by show 97 ≤ 122 ∧ 122 ≤ 122; decide, by show 1 ≤ 2; decide, by show 2 ≤ 8; decide, fun x hx => ?_, fun x hx => ?_, by show 1 ≤ 2000; decide⟩
  · have hx' : x ∈ [122, 122] := hx
    unfold Small
    rcases List.mem_cons.mp hx' with rfl | hx'
    · decide
    · rcases List.mem_cons.mp hx' with rfl | hx'
      · decide
      · cases hx'
  · have hx' : x ∈ [c % 64] := hx
    rw [List.mem_singleton] at hx'
    omega
theorem erase_perm {α : Type} : ∀ {l : List α} {i : Nat} {x : α}, l[i]? = some x → (l.eraseIdx i ++ [x]).Perm l
  | [], i, x, h => by simp at h
  | y :: r, 0, x, h => by
    have : y = x := Option.some.inj h
    subst this
    show (r ++ [y]).Perm (y :: r)
    exact List.perm_append_comm (l₁ := r) (l₂ := [y])
  | y :: r, i + 1, x, h => by
    show (y :: (r.eraseIdx i ++ [x])).Perm (y :: r)
    exact (erase_perm (l := r) h).cons y
theorem flat_perm {ps qs : List Pt} (h : ps.Perm qs) : (flat ps).length = (flat qs).length := by
  induction h with
  | nil => rfl
  | cons x _ ih =>
    show (partNums x ++ flat _).length = (partNums x ++ flat _).length
    rw [List.length_append, List.length_append, ih]
  | swap x y l =>
    show (partNums y ++ (partNums x ++ flat l)).length = (partNums x ++ (partNums y ++ flat l)).length
    simp only [List.length_append]
    omega
  | trans _ _ h1 h2 => rw [h1, h2]
theorem LOK.perm {ps qs : List Pt} {n : Nat} (h : LOK ps n) (hp : qs.Perm ps) : LOK qs n :=
  ⟨fun p hq => h.good p (hp.mem_iff.mp hq), fun p hq => h.pcd p (hp.mem_iff.mp hq), (hp.map key).nodup_iff.mpr h.nd, by rw [flat_perm hp]; exact h.flat⟩
theorem LOK.init {ps : List Pt} {p : Pt} {n : Nat} (h : LOK (ps ++ [p]) n) : LOK ps n := by
  refine ⟨fun q hq => h.good q (List.mem_append_left _ hq), fun q hq => h.pcd q (List.mem_append_left _ hq), ?_, ?_⟩
  · have := h.nd
    rw [List.map_append] at this
    exact (List.nodup_append.mp this).1
  · have := h.flat
    rw [flat_snoc, List.length_append] at this
    omega
theorem LOK.erase {ps : List Pt} {i : Nat} {p : Pt} {n : Nat} (h : LOK ps n) (hi : ps[i]? = some p) : LOK (ps.eraseIdx i) n := (h.perm (erase_perm hi)).init
theorem moved0_ok {ps : List Pt} {n : Nat} (h : LOK ps n) (c : Int) : LOK (moved0 ps c) n := by
  unfold moved0
  split
  · exact h
  · rename_i p hp
    split
    · exact h.perm (erase_perm hp)
    · exact h.erase hp
theorem zkey {ps : List Pt} {n : Nat} (h : LOK ps n) (c : Int) : key (zpart c) ∉ ps.map key := fun hm => by
  obtain ⟨q, hq, e⟩ := List.mem_map.mp hm
  have e1 : q.k = 122 := congrArg (·.1) e
  rcases h.pcd q hq with h | h | h <;> omega
theorem moved_ok {ps : List Pt} (h : LOK ps 3000) (c : Int) : OK (moved ps c) := by
  have m := moved0_ok h c
  refine ⟨fun p hp => ?_, ?_, ?_⟩
  · rcases List.mem_append.mp hp with hp | hp
    · exact m.good p hp
    · rw [List.mem_singleton] at hp; subst hp; exact zpart_good c
  · unfold moved
    rw [List.map_append]
    exact nodup_snoc m.nd (zkey m c)
  · unfold moved
    rw [size_snoc, partNums_len]
    have := m.flat
    unfold size
    show 7 + ((flat (moved0 ps c)).length : Int) + ((4 + 2 + 1 : Nat) : Int) ≤ 3900
    omega
end Cf
namespace Cf
open PySem L2

/-! ### the text by places -/
def top (i : Nat) : Stmt := PySem.Challenge.pw_cellfolio_k35_whole_a_folio_reads_back.main.body.getD i (.Pass ⟨0, 0, 0, 0⟩)

/-! ### texts by their codes -/
def S (l : List Nat) : Str := ⟨l.toArray⟩
theorem S_inj {a b : List Nat} (h : S a = S b) : a = b := by
  have := congrArg (fun x : Str => x.cps.toList) h
  exact this
theorem S_len (l : List Nat) : (S l).length = l.length := by
  show l.toArray.size = l.length
  exact List.size_toArray
theorem S_cps (l : List Nat) : (S l).cps.toList = l := rfl
theorem S_get {l : List Nat} {i c : Nat} (h : l[i]? = some c) : (S l).cps[i]? = some c := by
  show l.toArray[i]? = some c
  rw [List.getElem?_toArray]
  exact h
theorem S_app (a b : List Nat) : S a ++ S b = S (a ++ b) := TL.ext_tl (TL.tl_append _ _)

/-! ### a def of the top -/
def At (K : PySem.W.Frag) (mg : Str → Option Value) (name : Str) (st : Stmt) (ps : List Str) : Prop :=
  ∃ (f : Addr) (fd : FuncData), Fun K name name st f fd ∧ mg name = some (.ref f) ∧ Binds K fd ps []
def Def (P : Program) (w : World) (K : PySem.W.Frag) (mg : Str → Option Value) (base : Heap) (name : Str) (ps : List Str) (k : Nat) (sp : Sp) : Prop :=
  ∃ (f : Addr) (fd : FuncData), FnOk P w K mg base CX0 k f fd ps sp ∧ mg name = some (.ref f) ∧ PySem.W.keepIn K (.ref f) = true ∧ Binds K fd ps []
/-- a method of the class at C -/
def MAt (K : PySem.W.Frag) (C : Addr) (name qual : Str) (st : Stmt) (ps : List Str) : Prop :=
  ∃ (f : Addr) (fd : FuncData), Fun K name qual st f fd ∧ Meth K C name f ∧ Binds K fd ps []
def MDef (P : Program) (w : World) (K : PySem.W.Frag) (mg : Str → Option Value) (base : Heap) (C : Addr) (name : Str) (ps : List Str) (k : Nat) (sp : Sp) : Prop :=
  ∃ (f : Addr) (fd : FuncData), FnOk P w K mg base CX0 k f fd ps sp ∧ Meth K C name f ∧ Binds K fd ps []
section
variable {X : Cx} {k : Nat} {ps : List Str} {sp : Sp} {x m : Str} {p pos apos : Pos} {e o : Expr} {es : List Expr} {t : TA} {ta : TE} {C : Addr}
theorem pe_def (D : Def X.prog X.w X.K X.mg X.base x ps k sp) (hr : Room k X.A) (hg : Gl X x)
    (ha : PA X (e :: es) t) (hdb : (x == ("__debug__" : Str)) = false := by decide) (he : starEach (e :: es) X.env = (false, eval e X.env) :: starEach es X.env := by rfl) (hpl : (backTo pos (starEach es X.env)).any (·.1) = false := by rfl) :
    PE X (.Call (.Name x p) (e :: es) [] pos) (tCall sp [] E0 t) := by
  obtain ⟨f, fd, G, g, kp, b⟩ := D
  exact pe_call G hr hg g kp b .nil pass0 ha hdb he hpl
theorem pe_def0 (D : Def X.prog X.w X.K X.mg X.base x ps k sp) (hr : Room k X.A) (hg : Gl X x) (hdb : (x == ("__debug__" : Str)) = false := by decide) :
    PE X (.Call (.Name x p) [] [] pos) (tCall sp [] E0 tNil) := by
  obtain ⟨f, fd, G, g, kp, b⟩ := D
  exact pe_call0 G hr hg g kp b .nil pass0 hdb
end
theorem Def.mono {P : Program} {w : World} {K : PySem.W.Frag} {mg : Str → Option Value} {base : Heap} {name : Str} {ps : List Str} {j k : Nat} {sp : Sp} (D : Def P w K mg base name ps j sp) (h : j ≤ k) : Def P w K mg base name ps k sp := by
  obtain ⟨f, fd, G, g, kp, b⟩ := D
  exact ⟨f, fd, G.mono h, g, kp, b⟩

/-! ### the module's constants, the built-in names -/
def lets : List Nat := [97, 98, 99, 100, 101, 102, 103, 104, 105, 106, 107, 108, 109, 110, 111, 112, 113, 114, 115, 116, 117, 118, 119, 120, 121, 122]
structure Txt (mg : Str → Option Value) : Prop where
  len : mg "len" = none
  isi : mg "isinstance" = none
  str : mg "str" = none
  int : mg "int" = none
  bool : mg "bool" = none
  tuple : mg "tuple" = none
  list : mg "list" = none
  range : mg "range" = none
  enum : mg "enumerate" = none
  all : mg "all" = none
  dm : mg "divmod" = none
  SIGNS : ∃ t, mg "SIGNS" = some (.str (S sigs) t)
  CHECK : ∃ t, mg "CHECK" = some (.int 4093 t)
  SMALL : ∃ t, mg "SMALL" = some (.str (S lets) t)
  MOST_NAME : ∃ t, mg "MOST_NAME" = some (.int 8 t)
  MOST_NUMBERS : ∃ t, mg "MOST_NUMBERS" = some (.int 2000 t)
  HEAD : ∃ t, mg "HEAD" = some (.str (S [67, 70, 49]) t)
  MOST_SIGNS : ∃ t, mg "MOST_SIGNS" = some (.int 3900 t)
  LEAST_SIGNS : ∃ t, mg "LEAST_SIGNS" = some (.int 7 t)

/-! ### heaps -/
theorem same_upd {H : Hp} {p : Addr} {o : HO} (h : H p = none) : Same H (upd H p o) := fun b x e => by
  rw [upd_ne (ne_of_none e h)]
  exact e
/-- an address that was free at H0 stays so beside a store elsewhere -/
theorem put_same {H0 H : Hp} {p : Addr} {o : HO} (s : Same H0 H) (h : H0 p = none) : Same H0 (upd H p o) := fun b x e => by
  rw [upd_ne (ne_of_none e h)]
  exact s b x e
theorem free_of {H0 H : Hp} {p : Addr} (s : Same H0 H) (h : H p = none) : H0 p = none := s.free h
theorem five {n : Nat} (h : n ≤ 5000) : n < sizeLine := Nat.lt_of_le_of_lt h (by decide)
theorem five' {n : Nat} (h : n ≤ 5000) : n ≤ sizeLine := Nat.le_of_lt (five h)

/-! ### comprehensions and loops by turns -/
theorem lc_turns {J : It} {g : TG} {tt : TT} {te : TE} {vs : List Nat} {σ : St} {H1 : Hp} {Dl : Addr} {Qd : Hp → Prop} (n : Nat) (Pv : Nat → Hp → Prop) (h0 : Pv 0 (upd H1 Dl (.lst [])))
    (hg : ∀ i H, i < n → Pv i H → J.go i H) (hst : ∀ H, Pv n H → J.stop n H)
    (hs : ∀ i x H H', i < n → Pv i H → J.yld i H x H' → g x (wipe σ vs) H' fun σ2 H2 => wipe σ2 vs = wipe σ vs ∧ tt σ2 H2 fun b H3 =>
      if b = true then te σ2 H3 fun y H4 => ∃ acc, H4 Dl = some (.lst acc) ∧ acc.length < sizeLine ∧ Pv (i + 1) (upd H4 Dl (.lst (acc ++ [y]))) else Pv (i + 1) H3)
    (hd : ∀ H, Pv n H → Qd H) :
    ∃ W : Nat → Nat → Hp → Prop, (∃ m, W 0 m (upd H1 Dl (.lst []))) ∧ ∀ i m H, W i m H →
      (J.stop i H ∧ Qd H) ∨ (J.go i H ∧ ∃ Nx : Hp → Prop, (∀ H', Nx H' → ∃ m', m' < m ∧ W (i + 1) m' H') ∧ ∀ x H', J.yld i H x H' → g x (wipe σ vs) H' fun σ2 H2 => wipe σ2 vs = wipe σ vs ∧ tt σ2 H2 fun b H3 =>
        if b = true then te σ2 H3 fun y H4 => ∃ acc, H4 Dl = some (.lst acc) ∧ acc.length < sizeLine ∧ Nx (upd H4 Dl (.lst (acc ++ [y]))) else Nx H3) := by
  refine ⟨fun i m H => i + m = n ∧ Pv i H, ⟨n, Nat.zero_add n, h0⟩, fun i m H hW => ?_⟩
  obtain ⟨e, hp⟩ := hW
  by_cases hi : i < n
  · exact .inr ⟨hg i H hi hp, Pv (i + 1), fun H' h' => ⟨m - 1, by omega, by omega, h'⟩, fun x H' hy => hs i x H H' hi hp hy⟩
  · have ei : i = n := by omega
    subst ei
    exact .inl ⟨hst H hp, hd H hp⟩
/-- each turn gives one item of ys, what stood stands -/
theorem lc_map {J : It} {g : TG} {te : TE} {vs : List Nat} {σ : St} {H1 : Hp} {Dl : Addr} {Qd : Hp → Prop} (ys : List V) (hD : H1 Dl = none) (hl : ys.length ≤ sizeLine)
    (hg : ∀ i H, i < ys.length → Same H1 H → J.go i H) (hst : ∀ H, Same H1 H → J.stop ys.length H)
    (hs : ∀ i x H H', i < ys.length → Same H1 H → J.yld i H x H' → ∀ G : St → Hp → Prop,
      (∀ σ2 H2, wipe σ2 vs = wipe σ vs → (∀ Q : V → Hp → Prop, (∀ y H4, Same H H4 → ys[i]? = some y → Q y H4) → te σ2 H2 Q) → G σ2 H2) → g x (wipe σ vs) H' G)
    (hd : ∀ H, Same H1 H → H Dl = some (.lst ys) → Qd H) :
    ∃ W : Nat → Nat → Hp → Prop, (∃ m, W 0 m (upd H1 Dl (.lst []))) ∧ ∀ i m H, W i m H →
      (J.stop i H ∧ Qd H) ∨ (J.go i H ∧ ∃ Nx : Hp → Prop, (∀ H', Nx H' → ∃ m', m' < m ∧ W (i + 1) m' H') ∧ ∀ x H', J.yld i H x H' → g x (wipe σ vs) H' fun σ2 H2 => wipe σ2 vs = wipe σ vs ∧ tYes σ2 H2 fun b H3 =>
        if b = true then te σ2 H3 fun y H4 => ∃ acc, H4 Dl = some (.lst acc) ∧ acc.length < sizeLine ∧ Nx (upd H4 Dl (.lst (acc ++ [y]))) else Nx H3) := by
  refine lc_turns ys.length (fun i H => Same H1 H ∧ H Dl = some (.lst (ys.take i))) ⟨same_upd hD, upd_same⟩ (fun i H hi hp => hg i H hi hp.1) (fun H hp => hst H hp.1) (fun i x H H' hi hp hy => ?_) (fun H hp => hd H hp.1 (by rw [hp.2, List.take_length]))
  refine hs i x H H' hi hp.1 hy _ fun σ2 H2 hw ht => ⟨hw, ?_⟩
  unfold tYes
  refine iteT ?_
  refine ht _ fun y H4 s4 ey => ⟨ys.take i, s4 _ _ hp.2, ?_, ?_, ?_⟩
  · rw [List.length_take]
    exact Nat.lt_of_lt_of_le (Nat.lt_of_le_of_lt (Nat.min_le_left _ _) hi) hl
  · exact put_same (hp.1.trans s4) hD
  · rw [upd_same, List.take_add_one, ey]
    rfl
theorem for_turns {J : It} {g : TG} {tb : TS} {D : Ends} {σ : St} {H : Hp} (n : Nat) (Pv : Nat → St → Hp → Prop) (h0 : Pv 0 σ H)
    (hg : ∀ i σ H, i < n → Pv i σ H → J.go i H) (hst : ∀ σ H, Pv n σ H → J.stop n H)
    (hs : ∀ i x σ H H', i < n → Pv i σ H → J.yld i H x H' → g x σ H' fun σ2 H2 => tb { D with nx := Pv (i + 1), ct := Pv (i + 1), bk := D.nx } σ2 H2)
    (hd : ∀ σ H, Pv n σ H → D.nx σ H) :
    ∃ W : Nat → Nat → St → Hp → Prop, (∃ m, W 0 m σ H) ∧ ∀ i m σ H, W i m σ H →
      (J.stop i H ∧ D.nx σ H) ∨ (J.go i H ∧ ∃ N : St → Hp → Prop, (∀ σ' H', N σ' H' → ∃ m', m' < m ∧ W (i + 1) m' σ' H') ∧ ∀ x H', J.yld i H x H' → g x σ H' fun σ2 H2 => tb { D with nx := N, ct := N, bk := D.nx } σ2 H2) := by
  refine ⟨fun i m σ H => i + m = n ∧ Pv i σ H, ⟨n, Nat.zero_add n, h0⟩, fun i m σ H hW => ?_⟩
  obtain ⟨e, hp⟩ := hW
  by_cases hi : i < n
  · exact .inr ⟨hg i σ H hi hp, Pv (i + 1), fun σ' H' h' => ⟨m - 1, by omega, by omega, h'⟩, fun x H' hy => hs i x σ H H' hi hp hy⟩
  · have ei : i = n := by omega
    subst ei
    exact .inl ⟨hst σ H hp, hd σ H hp⟩

/-! ### isinstance -/
section
variable {X : Cx} {e : Expr} {te : TE} {p p2 pos : Pos}
def tIsi (K : PySem.W.Frag) (c : String) (te : TE) : TE := fun σ H Q => te σ H fun x H1 => rIsi K [x, .ty c] H1 Q
theorem pe_isi {c : String} {cn : Str} (hi : X.mg "isinstance" = none) (hgi : Gl X "isinstance") (hg : Gl X cn) (hc : X.mg cn = none) (hb : bootBuiltins cn = some (.type c)) (he : PE X e te) (hn : cn ≠ "__name__" := by decide) (hd : (cn == ("__debug__" : Str)) = false := by decide)
    (hs : starEach [e, .Name cn p2] X.env = (false, eval e X.env) :: starEach [.Name cn p2] X.env := by rfl) (hs2 : starEach [.Name cn p2] X.env = (false, eval (.Name cn p2) X.env) :: starEach [] X.env := by rfl)
    (hpl : (backTo pos (starEach [.Name cn p2] X.env)).any (·.1) = false := by rfl) :
    PE X (.Call (.Name "isinstance" p) [e, .Name cn p2] [] pos) (tIsi X.K c te) :=
  pe_callB (X := X) (pos := pos) (p := p) call_isi hgi hi PyProof.Rows.boot_isinstance (pa_cons he (pa_cons (pe_bltn (v := .ty c) hg hc hb rfl hn hd) pa_nil hs2) hs) (by decide) (by decide) hs hpl
end
section
variable {K : PySem.W.Frag} {H : Hp} {Q : VK}
theorem isi_str {z : Str} (q : Q (.bl true) H) : rIsi K [.str z, .ty "str"] H Q := ⟨_, _, _, _, true, rfl, .ty _, .base (.str z), kit_ty (by decide +kernel), q⟩
theorem isi_int {i : Int} (q : Q (.bl true) H) : rIsi K [.int i, .ty "int"] H Q := ⟨_, _, _, _, true, rfl, .ty _, .base (.int i), kit_ty (by decide +kernel), q⟩
theorem isi_intb {i : Int} (q : Q (.bl false) H) : rIsi K [.int i, .ty "bool"] H Q := ⟨_, _, _, _, false, rfl, .ty _, .base (.int i), kit_ty (by decide +kernel), q⟩
theorem isi_tup {a : Addr} {xs : List V} (h : H a = some (.tup xs)) (q : Q (.bl true) H) : rIsi K [.ref a, .ty "tuple"] H Q := ⟨_, _, _, _, true, rfl, .ty _, .base (.tup h), kit_ty (by decide +kernel), q⟩
theorem isi_lst {a : Addr} {xs : List V} (h : H a = some (.lst xs)) (q : Q (.bl true) H) : rIsi K [.ref a, .ty "list"] H Q := ⟨_, _, _, _, true, rfl, .ty _, .base (.lst h), kit_ty (by decide +kernel), q⟩
end

/-! ### the module's constants -/
section
variable {X : Cx} {x : Str} {pos : Pos}
theorem pe_gS {z : Str} (h : ∃ t, X.mg x = some (.str z t)) (hg : Gl X x) (hd : (x == ("__debug__" : Str)) = false := by decide) : PE X (.Name x pos) (tC (.str z)) := by
  obtain ⟨t, h⟩ := h
  exact pe_glob hg h ⟨t, rfl⟩ hd
theorem pe_gI {i : Int} (h : ∃ t, X.mg x = some (.int i t)) (hg : Gl X x) (hd : (x == ("__debug__" : Str)) = false := by decide) : PE X (.Name x pos) (tC (.int i)) := by
  obtain ⟨t, h⟩ := h
  exact pe_glob hg h ⟨t, rfl⟩ hd
end

/-! ### texts joined -/
theorem join_signs (l : List Nat) : Txt.join (S []) (l.map fun c => S [c]) = S l := by
  rw [TL.join_eq]
  apply TL.ext_tl
  rw [TL.tl_join]
  show TL.joinL [] ((l.map fun c => S [c]).map TL.tl) = l
  rw [List.map_map]
  induction l with
  | nil => rfl
  | cons c r ih =>
    cases r with
    | nil => rfl
    | cons d r =>
      show [c] ++ ([] ++ TL.joinL [] ([d] :: r.map _)) = c :: d :: r
      exact congrArg (c :: ·) ih
theorem join_room (l : List Nat) (h : l.length ≤ 100000) : ((l.map fun c => S [c]).map (·.length)).sum + (l.map fun c => S [c]).length * (S []).length ≤ 16777216 := by
  have e : (S []).length = 0 := rfl
  rw [e, Nat.mul_zero, Nat.add_zero]
  have : ∀ l : List Nat, ((l.map fun c => S [c]).map (·.length)).sum = l.length := by
    intro l
    induction l with
    | nil => rfl
    | cons c r ih =>
      show (S [c]).length + ((r.map fun c => S [c]).map (·.length)).sum = r.length + 1
      rw [ih]
      have e1 : (S [c]).length = 1 := rfl
      omega
  rw [this]
  omega
end Cf
namespace Cf
open PySem L2
section
variable {P : Program} {w : World} {K : PySem.W.Frag} {mg : Str → Option Value} {base : Heap}

/-! ### sign_of_number -/
abbrev s11 : Stmt := top 11
theorem sc11 : FnScope ["number"] ["number"] (defScope s11) := ⟨rfl, rfl, rfl, by decide +kernel, rfl, by decide +kernel, by decide +kernel⟩
def spSignOf : Sp := fun vs H Q _ => ∃ i : Int, vs = [.int i] ∧ 0 ≤ i ∧ i ≤ 63 ∧ Q (.str (S [sign i])) H
theorem d_sign (A : At K mg "sign_of_number" s11 ["number"]) (T : Txt mg) : Def P w K mg base "sign_of_number" ["number"] 1 spSignOf := by
  obtain ⟨f, fd, F, g, b⟩ := A
  refine ⟨f, fd, ?_, g, F.kp, b⟩
  refine F.ok sc11 (fun vs H Q E h => ?_) (fun cdv A outer s H vs Q E hr h => ?_)
  · obtain ⟨i, rfl, _⟩ := h
    rfl
  · obtain ⟨i, rfl, h0, h1, k⟩ := h
    refine ⟨_, pss_one (ps_ret (pe_item_str (pe_gS T.SIGNS rfl) (pv 0) (fun _ _ => rfl))), ?_⟩
    refine ⟨_, rfl, S sigs, i, sign i, rfl, rfl, h0, by omega, ?_, S_get (sign_at h0 h1), k⟩
    rw [S_len, sigs_len]
    omega

/-! ### two_numbers, one_number -/
abbrev s15 : Stmt := top 15
theorem sc15 : FnScope ["number"] ["number"] (defScope s15) := ⟨rfl, rfl, rfl, by decide +kernel, rfl, by decide +kernel, by decide +kernel⟩
def spTwo : Sp := fun vs H Q _ => ∃ z : Int, vs = [.int z] ∧ 0 ≤ z ∧ ∀ p, H p = none → Q (.ref p) (upd H p (.tup ((two z).map V.int)))
theorem d_two (A : At K mg "two_numbers" s15 ["number"]) : Def P w K mg base "two_numbers" ["number"] 1 spTwo := by
  obtain ⟨f, fd, F, g, b⟩ := A
  refine ⟨f, fd, ?_, g, F.kp, b⟩
  refine F.ok sc15 (fun vs H Q E h => ?_) (fun cdv A outer s H vs Q E hr h => ?_)
  · obtain ⟨i, rfl, _⟩ := h
    rfl
  · obtain ⟨z, rfl, h0, k⟩ := h
    refine ⟨_, pss_one (ps_ret (pe_tup (pa_cons (pe_op op_shr (pv 0) pe_int) (pa_cons (pe_op op_and (pv 0) pe_int) pa_nil)))), ?_⟩
    refine ⟨_, rfl, _, _, rfl, rfl, (by show (0 : Int) ≤ 6; decide), _, rfl, _, _, rfl, rfl, (by show 2 ≤ sizeLine; decide), fun p hp => ?_⟩
    have e : Builtin.bitAnd z 63 = z % 64 := Bits.bitAnd_mask 6 h0
    have e2 := k p hp
    show Q (.ref p) (upd H p (.tup [.int (z / 2 ^ 6), .int (Builtin.bitAnd z 63)]))
    rw [e]
    exact e2
abbrev s16 : Stmt := top 16
theorem sc16 : FnScope ["high", "low"] ["high", "low"] (defScope s16) := ⟨rfl, rfl, rfl, by decide +kernel, rfl, by decide +kernel, by decide +kernel⟩
def spOne : Sp := fun vs H Q _ => ∃ a b : Int, vs = [.int a, .int b] ∧ 0 ≤ a ∧ a ≤ 63 ∧ 0 ≤ b ∧ b ≤ 63 ∧ Q (.int (a * 64 + b)) H
theorem d_one (A : At K mg "one_number" s16 ["high", "low"]) : Def P w K mg base "one_number" ["high", "low"] 1 spOne := by
  obtain ⟨f, fd, F, g, b⟩ := A
  refine ⟨f, fd, ?_, g, F.kp, b⟩
  refine F.ok sc16 (fun vs H Q E h => ?_) (fun cdv A outer s H vs Q E hr h => ?_)
  · obtain ⟨i, j, rfl, _⟩ := h
    rfl
  · obtain ⟨i, j, rfl, h0, h1, h2, h3, k⟩ := h
    refine ⟨_, pss_one (ps_ret (pe_op op_or (pe_op op_shl (pv 0) pe_int) (pv 1))), ?_⟩
    refine ⟨_, rfl, _, _, rfl, rfl, ⟨by decide, by decide, by omega⟩, _, rfl, _, _, rfl, rfl, ?_⟩
    have e : Builtin.bitOr (i * 2 ^ 6) j = j + i * 2 ^ 6 := Bits.bitOr_join' h2 (by omega) h0
    show Q (.int (Builtin.bitOr (i * 2 ^ (6 : Int).toNat) j)) H
    rw [show ((6 : Int).toNat) = 6 from rfl, e, show j + i * 2 ^ 6 = i * 64 + j by omega]
    exact k

/-! ### number_of_sign -/
abbrev s12 : Stmt := top 12
theorem sc12 : FnScope ["sign"] ["sign"] (defScope s12) := ⟨rfl, rfl, rfl, by decide +kernel, rfl, by decide +kernel, by decide +kernel⟩
def spNumOf : Sp := fun vs H Q _ => ∃ c : Nat, vs = [.str (S [c])] ∧ c ∈ sigs ∧ Q (.int (num c)) H
theorem index_sigs : ∀ c ∈ sigs, Txt.index0 (S sigs) (S [c]) = some (sigs.idxOf c) := by decide +kernel
theorem d_num (A : At K mg "number_of_sign" s12 ["sign"]) (T : Txt mg) : Def P w K mg base "number_of_sign" ["sign"] 1 spNumOf := by
  obtain ⟨f, fd, F, g, b⟩ := A
  refine ⟨f, fd, ?_, g, F.kp, b⟩
  refine F.ok sc12 (fun vs H Q E h => ?_) (fun cdv A outer s H vs Q E hr h => ?_)
  · obtain ⟨i, rfl, _⟩ := h
    rfl
  · obtain ⟨c, rfl, hc, k⟩ := h
    refine ⟨_, pss_cons (ps_if (PW.pt (pw_or (pt_not (pt_val (pe_isi T.isi rfl rfl T.str PyProof.Rows.boot_str (pv 0))))
        (pw_or (pt_cmpR op_ne (pe_callB call_len (by rfl) T.len PySem.boot_len (pa_cons (pv 0) pa_nil)) pe_int (nomark _))
        (pw_or1 (pt_cmpR op_notIn_sign (pv 0) (pe_gS T.SIGNS rfl) rfl))))) pss_never pss_nil)
      (pss_one (ps_ret (pe_bmS PySem.F.plainAttrs_str PySem.F.slot_str_index PySem.F.type_str_index (mt_indexX rfl takes_none5) (pe_gS T.SIGNS rfl) (pa_cons (pv 0) pa_nil)))), ?_⟩
    refine ⟨_, rfl, isi_str ⟨true, rfl, ?_⟩⟩
    refine iteF ?_
    refine ⟨_, rfl, _, 1, rfl, ⟨by show 1 ≤ sizeLine; decide, rfl⟩, rfl, false, ?_, ?_⟩
    · rfl
    refine iteF ?_
    refine ⟨_, rfl, c, S sigs, rfl, rfl, false, ?_, ?_⟩
    · rw [S_cps, decide_eq_true hc]
      rfl
    refine iteF ?_
    refine ⟨rfl, _, rfl, S sigs, S [c], rfl, rfl, fun j hj => ?_, fun hn d => ?_⟩
    · rw [index_sigs c hc] at hj
      cases hj
      exact k
    · rw [index_sigs c hc] at hn
      cases hn
end
end Cf
namespace Cf
open PySem L2
theorem empty_S : Str.ofString "" = S [] := by decide +kernel
theorem get_map {α β : Type} {f : α → β} {l : List α} {i : Nat} {y : β} (h : (l.map f)[i]? = some y) : ∃ x, l[i]? = some x ∧ y = f x := by
  rw [List.getElem?_map] at h
  cases e : l[i]? with
  | none => rw [e] at h; cases h
  | some x =>
    rw [e] at h
    exact ⟨x, rfl, (Option.some.inj h).symm⟩
theorem map_get {α β : Type} {f : α → β} {l : List α} {i : Nat} {x : α} (h : l[i]? = some x) : (l.map f)[i]? = some (f x) := by
  rw [List.getElem?_map, h]
  rfl
theorem get_lt {α : Type} {l : List α} {i : Nat} {x : α} (h : l[i]? = some x) : i < l.length := (List.getElem?_eq_some_iff.mp h).1
theorem get_mem {α : Type} {l : List α} {i : Nat} {x : α} (h : l[i]? = some x) : x ∈ l := List.mem_of_getElem? h
theorem lt_get {α : Type} {l : List α} {i : Nat} (h : i < l.length) : ∃ x, l[i]? = some x := ⟨l[i], List.getElem?_eq_getElem h⟩
section
variable {P : Program} {w : World} {K : PySem.W.Frag} {mg : Str → Option Value} {base : Heap}

/-! ### signs_text -/
abbrev s13 : Stmt := top 13
theorem sc13 : FnScope ["numbers", "number"] ["numbers"] (defScope s13) := ⟨rfl, rfl, rfl, by decide +kernel, rfl, by decide +kernel, by decide +kernel⟩
def spSignsText (K : PySem.W.Frag) : Sp := fun vs H Q _ => ∃ (a : Addr) (l : List Int), vs = [.ref a] ∧ SqL K H a (l.map V.int) ∧ Six l ∧ l.length ≤ 5000 ∧ ∀ H', Same H H' → Q (.str (S (l.map sign))) H'
theorem d_signs (A : At K mg "signs_text" s13 ["numbers"]) (D : Def P w K mg base "sign_of_number" ["number"] 1 spSignOf) : Def P w K mg base "signs_text" ["numbers"] 2 (spSignsText K) := by
  obtain ⟨f, fd, F, g, b⟩ := A
  refine ⟨f, fd, ?_, g, F.kp, b⟩
  refine F.ok sc13 (fun vs H Q E h => ?_) (fun cdv A outer s H vs Q E hr h => ?_)
  · obtain ⟨a, l, rfl, _⟩ := h
    rfl
  · obtain ⟨a, l, rfl, hS, h6, hl, k⟩ := h
    refine ⟨_, pss_one (ps_ret (pe_join pe_str (pe_lc (own := [("number", 1)]) (g := gName 1) rfl sc13.nd (pi_list (pv 0)) (blkOk_by (N := ["numbers", "number"]) (sc := defScope s13) (by decide +kernel))
      (fun _ _ _ _ _ => pg_name (i := 1) sc13.nd rfl (Or.inl rfl)) (fun _ _ _ _ _ => pts_nil) (fun _ _ _ _ _ => pe_def D hr rfl (pa_cons (pv 1) pa_nil))))), ?_⟩
    refine ⟨⟨_, rfl⟩, ?_⟩
    refine ⟨_, rfl, a, rfl, ⟨_, hS⟩, fun Dl hD => ?_⟩
    refine lc_map (l.map fun i => V.str (S [sign i])) hD (by rw [List.length_map]; exact five' hl) (fun i H1 hi s1 => ?_) (fun H1 s1 => ?_) (fun i x H1 H2 hi s1 hy G hG => ?_) (fun H1 s1 e1 => ?_)
    · rw [List.length_map] at hi
      obtain ⟨x, hx⟩ := lt_get hi
      exact ⟨_, _, s1.seq hS, map_get hx⟩
    · exact ⟨_, s1.seq hS, by rw [List.length_map, List.length_map]; exact Nat.le_refl _⟩
    · obtain ⟨rfl, hx⟩ := hy
      obtain ⟨z, hz, rfl⟩ := get_map (hx _ (s1.seq hS))
      refine hG _ _ rfl fun Q2 hQ => ?_
      have z6 := h6 z (get_mem hz)
      refine ⟨_, rfl, z, rfl, z6.1, z6.2, hQ _ _ (Same.refl _) (map_get hz)⟩
    · refine ⟨_, Dl, (l.map sign).map (fun c => S [c]), rfl, rfl, .inl (SqL.of ?_), join_room _ (by rw [List.length_map]; omega), ?_⟩
      · rw [e1, List.map_map, List.map_map]
        rfl
      · rw [empty_S, join_signs]
        exact k H1 s1

/-! ### numbers_of_text -/
abbrev s14 : Stmt := top 14
theorem sc14 : FnScope ["text", "sign"] ["text"] (defScope s14) := ⟨rfl, rfl, rfl, by decide +kernel, rfl, by decide +kernel, by decide +kernel⟩
def spNumsText : Sp := fun vs H Q _ => ∃ (l : List Nat), vs = [.str (S l)] ∧ (∀ c ∈ l, c ∈ sigs) ∧ l.length ≤ 5000 ∧ ∀ H' p, Same H H' → H p = none → H' p = some (.lst ((l.map num).map V.int)) → Q (.ref p) H'
theorem d_nums (A : At K mg "numbers_of_text" s14 ["text"]) (T : Txt mg) (D : Def P w K mg base "number_of_sign" ["sign"] 1 spNumOf) : Def P w K mg base "numbers_of_text" ["text"] 2 spNumsText := by
  obtain ⟨f, fd, F, g, b⟩ := A
  refine ⟨f, fd, ?_, g, F.kp, b⟩
  refine F.ok sc14 (fun vs H Q E h => ?_) (fun cdv A outer s H vs Q E hr h => ?_)
  · obtain ⟨l, rfl, _⟩ := h
    rfl
  · obtain ⟨l, rfl, hm, hl, k⟩ := h
    refine ⟨_, pss_cons (ps_if (pt_not (pt_val (pe_isi T.isi rfl rfl T.str PyProof.Rows.boot_str (pv 0)))) pss_never pss_nil)
      (pss_one (ps_ret (pe_lc (own := [("sign", 1)]) (g := gName 1) rfl sc14.nd (pi_str (pv 0)) (blkOk_by (N := ["text", "sign"]) (sc := defScope s14) (by decide +kernel))
      (fun _ _ _ _ _ => pg_name (i := 1) sc14.nd rfl (Or.inl rfl)) (fun _ _ _ _ _ => pts_nil) (fun _ _ _ _ _ => pe_def D hr rfl (pa_cons (pv 1) pa_nil))))), ?_⟩
    refine ⟨_, rfl, isi_str ⟨true, rfl, ?_⟩⟩
    refine iteF ?_
    refine ⟨_, rfl, S l, rfl, fun Dl hD => ?_⟩
    have es : (S l).cps.size = l.length := List.size_toArray
    refine lc_map ((l.map num).map V.int) hD (by rw [List.length_map, List.length_map]; exact five' hl) (fun i H1 hi s1 => ?_) (fun H1 s1 => ?_) (fun i x H1 H2 hi s1 hy G hG => ?_) (fun H1 s1 e1 => ?_)
    · rw [List.length_map, List.length_map] at hi
      exact Nat.lt_of_lt_of_eq hi es.symm
    · rw [List.length_map, List.length_map]
      exact Nat.le_of_eq es
    · obtain ⟨rfl, c, hc, rfl⟩ := hy
      have hc' : l[i]? = some c := by
        rw [← hc]
        exact List.getElem?_toArray.symm
      refine hG _ _ rfl fun Q2 hQ => ?_
      refine ⟨_, rfl, c, rfl, hm c (get_mem hc'), hQ _ _ (Same.refl _) (map_get (map_get hc'))⟩
    · exact k H1 Dl s1 hD e1

/-! ### check_of -/
abbrev s19 : Stmt := top 19
theorem sc19 : FnScope ["numbers", "found", "place", "number"] ["numbers"] (defScope s19) := ⟨rfl, rfl, rfl, by decide +kernel, rfl, by decide +kernel, by decide +kernel⟩
def spCheck (K : PySem.W.Frag) : Sp := fun vs H Q _ => ∃ (a : Addr) (l : List Int), vs = [.ref a] ∧ SqL K H a (l.map V.int) ∧ Six l ∧ l.length ≤ 5000 ∧ ∀ H', Same H H' → Q (.int (chk l)) H'
theorem d_check (A : At K mg "check_of" s19 ["numbers"]) (T : Txt mg) : Def P w K mg base "check_of" ["numbers"] 1 (spCheck K) := by
  obtain ⟨f, fd, F, g, b⟩ := A
  refine ⟨f, fd, ?_, g, F.kp, b⟩
  refine F.ok sc19 (fun vs H Q E h => ?_) (fun cdv A outer s H vs Q E hr h => ?_)
  · obtain ⟨a, l, rfl, _⟩ := h
    rfl
  · obtain ⟨a, l, rfl, hS, h6, hl, k⟩ := h
    refine ⟨_, pss_cons (ps_set (i := 1) sc19.nd rfl (.inl rfl) pe_int)
      (pss_cons (ps_for PassesOwn.never rfl (pi_enum (by rfl) T.enum (pa_cons (pv 0) pa_nil)) (pg_tup rfl (pgs_cons (pg_name (i := 2) sc19.nd rfl (.inl rfl)) (pgs_cons (pg_name (i := 3) sc19.nd rfl (.inl rfl)) pgs_nil)))
        (pss_one (ps_aug (i := 1) sc19.nd rfl (.inl rfl) (pe_op op_mul (pe_op op_add (pv 2) pe_int) (pv 3)) ip_add)))
      (pss_one (ps_ret (pe_op op_mod (pv 1) (pe_gI T.CHECK rfl))))), ?_⟩
    refine ⟨_, rfl, a, _, rfl, hS, ?_⟩
    refine for_turns l.length (fun i σ H1 => ∃ v2 v3, σ = [some (.ref a), some (.int (wsum 0 (l.take i))), v2, v3] ∧ Same H H1) ⟨none, none, rfl, Same.refl _⟩ (fun i σ H1 hi hp => ?_) (fun σ H1 hp => ?_) (fun i x σ H1 H2 hi hp hy => ?_) (fun σ H1 hp => ?_)
    · obtain ⟨v2, v3, rfl, s1⟩ := hp
      obtain ⟨x, hx⟩ := lt_get hi
      exact ⟨_, _, s1.seq hS, map_get hx⟩
    · obtain ⟨v2, v3, rfl, s1⟩ := hp
      exact ⟨_, s1.seq hS, by rw [List.length_map]; exact Nat.le_refl _⟩
    · obtain ⟨v2, v3, rfl, s1⟩ := hp
      obtain ⟨t, x, rfl, ht, rfl, hx⟩ := hy
      obtain ⟨z, hz, rfl⟩ := get_map (hx _ (s1.seq hS))
      refine ⟨t, _, rfl, SqT.of upd_same, rfl, _, _, rfl, _, _, rfl, rfl, ?_⟩
      refine ⟨_, rfl, _, rfl, _, _, rfl, rfl, _, rfl, _, _, rfl, rfl, .inl ⟨?_, ?_⟩, _, _, rfl, rfl, some (.int (i : Nat)), some (.int z), ?_, s1.trans (same_upd ht)⟩
      · show -(2 ^ 64) < ((i : Nat) : Int) + 1; omega
      · show ((i : Nat) : Int) + 1 < 2 ^ 64; omega
      · rw [wsum_take hz]
        rfl
    · obtain ⟨v2, v3, rfl, s1⟩ := hp
      refine ⟨_, rfl, _, _, rfl, rfl, (by show (0 : Int) < 4093; decide), ?_⟩
      rw [List.take_length]
      exact k H1 s1

/-! ### is_small -/
abbrev s24 : Stmt := top 24
theorem sc24 : FnScope ["thing", "most", "sign"] ["thing", "most"] (defScope s24) := ⟨rfl, rfl, rfl, by decide +kernel, rfl, by decide +kernel, by decide +kernel⟩
def spSmall : Sp := fun vs H Q _ => ∃ (l : List Nat) (m : Int), vs = [.str (S l), .int m] ∧ 1 ≤ l.length ∧ (l.length : Int) ≤ m ∧ l.length ≤ 5000 ∧ (∀ c ∈ l, Small c) ∧ ∀ H', Same H H' → Q (.bl true) H'
theorem small_lets {c : Nat} (h : Small c) : c ∈ lets := by
  have hk : ∀ k : _root_.Fin 26, 97 + k.val ∈ lets := by decide +kernel
  have h1 := h.1
  have h2 := h.2
  have := hk ⟨c - 97, by omega⟩
  have e : 97 + (c - 97) = c := by omega
  rw [show (97 + (⟨c - 97, by omega⟩ : _root_.Fin 26).val) = c from e] at this
  exact this
theorem d_small (A : At K mg "is_small" s24 ["thing", "most"]) (T : Txt mg) : Def P w K mg base "is_small" ["thing", "most"] 1 spSmall := by
  obtain ⟨f, fd, F, g, b⟩ := A
  refine ⟨f, fd, ?_, g, F.kp, b⟩
  refine F.ok sc24 (fun vs H Q E h => ?_) (fun cdv A outer s H vs Q E hr h => ?_)
  · obtain ⟨l, m, rfl, _⟩ := h
    rfl
  · obtain ⟨l, m, rfl, h1, hm, hl, hs, k⟩ := h
    refine ⟨_, pss_cons (ps_if (PW.pt (pw_or (pt_not (pt_val (pe_isi T.isi rfl rfl T.str PyProof.Rows.boot_str (pv 0))))
        (pw_or1 (pt_not (pt_chain op_le op_le pe_int (pe_callB call_len (by rfl) T.len PySem.boot_len (pa_cons (pv 0) pa_nil)) (pv 1)))))) (pss_one (ps_ret pe_bl)) pss_nil)
      (pss_one (ps_ret (pe_callB (cr_all rfl) (by rfl) T.all PyProof.Rows.boot_all (pa_cons (pe_lc (own := [("sign", 2)]) (g := gName 2) rfl sc24.nd (pi_str (pv 0)) (blkOk_by (N := ["thing", "most", "sign"]) (sc := defScope s24) (by decide +kernel))
      (fun _ _ _ _ _ => pg_name (i := 2) sc24.nd rfl (Or.inl rfl)) (fun _ _ _ _ _ => pts_nil) (fun _ _ _ _ _ => pe_cmpR op_in_sign (pv 2) (pe_gS T.SMALL rfl) rfl)) pa_nil)))), ?_⟩
    refine ⟨_, rfl, isi_str ⟨true, rfl, ?_⟩⟩
    refine iteF ?_
    have es : (S l).cps.size = l.length := List.size_toArray
    refine ⟨_, rfl, _, l.length, rfl, ⟨by rw [S_len]; exact five' hl, (S_len l).symm⟩, _, _, rfl, rfl, true, ?_, ?_⟩
    · exact congrArg V.bl (decide_eq_true (by omega))
    refine iteT ?_
    refine ⟨_, rfl, _, _, rfl, rfl, true, ?_, ?_⟩
    · exact congrArg V.bl (decide_eq_true hm)
    refine iteF ?_
    refine ⟨_, rfl, S l, rfl, fun Dl hD => ?_⟩
    refine lc_map (l.map fun _ => V.bl true) hD (by rw [List.length_map]; exact five' hl) (fun i H1 hi s1 => ?_) (fun H1 s1 => ?_) (fun i x H1 H2 hi s1 hy G hG => ?_) (fun H1 s1 e1 => ?_)
    · rw [List.length_map] at hi
      exact Nat.lt_of_lt_of_eq hi es.symm
    · rw [List.length_map]
      exact Nat.le_of_eq es
    · obtain ⟨rfl, c, hc, rfl⟩ := hy
      have hc' : l[i]? = some c := by
        rw [← hc]
        exact List.getElem?_toArray.symm
      refine hG _ _ rfl fun Q2 hQ => ?_
      refine ⟨_, rfl, c, S lets, rfl, rfl, ?_⟩
      rw [S_cps, decide_eq_true (small_lets (hs c (get_mem hc')))]
      exact hQ _ _ (Same.refl _) (map_get hc')
    · refine ⟨Dl, l.map fun _ => true, rfl, SqL.of (by rw [e1, List.map_map]; rfl), ?_⟩
      have e : (l.map fun _ => true).all id = true := by
        rw [List.all_eq_true]
        intro x hx
        obtain ⟨_, _, rfl⟩ := List.mem_map.mp hx
        rfl
      rw [e]
      exact k H1 s1

/-! ### is_six_bits -/
abbrev s25 : Stmt := top 25
theorem sc25 : FnScope ["thing"] ["thing"] (defScope s25) := ⟨rfl, rfl, rfl, by decide +kernel, rfl, by decide +kernel, by decide +kernel⟩
def spSix : Sp := fun vs H Q _ => ∃ (i : Int), vs = [.int i] ∧ 0 ≤ i ∧ i ≤ 63 ∧ Q (.bl true) H
theorem d_six (A : At K mg "is_six_bits" s25 ["thing"]) (T : Txt mg) : Def P w K mg base "is_six_bits" ["thing"] 1 spSix := by
  obtain ⟨f, fd, F, g, b⟩ := A
  refine ⟨f, fd, ?_, g, F.kp, b⟩
  refine F.ok sc25 (fun vs H Q E h => ?_) (fun cdv A outer s H vs Q E hr h => ?_)
  · obtain ⟨l, rfl, _⟩ := h
    rfl
  · obtain ⟨i, rfl, h0, h1, k⟩ := h
    refine ⟨_, pss_one (ps_ret (pe_and (pe_isi T.isi rfl rfl T.int PyProof.Rows.boot_int (pv 0)) (pe_and (pe_not (pe_isi T.isi rfl rfl T.bool PyProof.Rows.boot_bool (pv 0))) (pe_one (pe_chain op_le op_le pe_int (pv 0) pe_int))))), ?_⟩
    refine ⟨_, rfl, isi_int ⟨true, rfl, ?_⟩⟩
    refine iteT ?_
    refine ⟨_, rfl, isi_intb ⟨false, rfl, true, rfl, ?_⟩⟩
    refine iteT ?_
    refine ⟨_, rfl, _, _, rfl, rfl, true, ?_, ?_⟩
    · exact congrArg V.bl (decide_eq_true h0)
    refine iteT ?_
    refine ⟨_, _, rfl, rfl, ?_⟩
    show Q (.bl (decide (i ≤ 63))) H
    rw [decide_eq_true h1]
    exact k
end
end Cf
namespace Cf
open PySem L2

/-! ### parts on the heap -/
def tupV (p : Pt) (r : Addr) : List V := [.str (S [p.k]), .str (S p.n), .ref r]
def PartT (H : Hp) (t : Addr) (p : Pt) (r : Addr) : Prop := H t = some (.tup (tupV p r)) ∧ H r = some (.lst (p.xs.map V.int))
theorem PartT.same {H H' : Hp} {t r : Addr} {p : Pt} (h : PartT H t p r) (s : Same H H') : PartT H' t p r := ⟨s _ _ h.1, s _ _ h.2⟩
theorem get_mid {α : Type} (a : List α) (x : α) (c : List α) : (a ++ x :: c)[a.length]? = some x := by
  rw [List.getElem?_append_right (Nat.le_refl _), Nat.sub_self]
  rfl
theorem cut_mid (a b c : List V) {i j : Int} (hi : i = (a.length : Int)) (hj : j = ((a.length + b.length : Nat) : Int)) : cutV (a ++ (b ++ c)) (some i) (some j) = b := by
  subst hi hj
  unfold cutV
  rw [HT.sIx_nat, HT.sIx_nat]
  have l1 : (a ++ (b ++ c)).length = a.length + (b.length + c.length) := by rw [List.length_append, List.length_append]
  rw [l1, show min a.length (a.length + (b.length + c.length)) = a.length by omega, show min (a.length + b.length) (a.length + (b.length + c.length)) = a.length + b.length by omega]
  rw [List.drop_left, show a.length + b.length - a.length = b.length by omega, List.take_left]
section
variable {P : Program} {w : World} {K : PySem.W.Frag} {mg : Str → Option Value} {base : Heap}

/-! ### is_part -/
abbrev s26 : Stmt := top 26
theorem sc26 : FnScope ["thing", "kind", "name", "numbers", "number"] ["thing"] (defScope s26) := ⟨rfl, rfl, rfl, by decide +kernel, rfl, by decide +kernel, by decide +kernel⟩
def spIsPart : Sp := fun vs H Q _ => ∃ (t r : Addr) (p : Pt), vs = [.ref t] ∧ PartT H t p r ∧ Good p ∧ ∀ H', Same H H' → Q (.bl true) H'
theorem d_ispart (A : At K mg "is_part" s26 ["thing"]) (T : Txt mg) (D1 : Def P w K mg base "is_small" ["thing", "most"] 1 spSmall) (D2 : Def P w K mg base "is_six_bits" ["thing"] 1 spSix) : Def P w K mg base "is_part" ["thing"] 2 spIsPart := by
  obtain ⟨f, fd, F, g, b⟩ := A
  refine ⟨f, fd, ?_, g, F.kp, b⟩
  refine F.ok sc26 (fun vs H Q E h => ?_) (fun cdv A outer s H vs Q E hr h => ?_)
  · obtain ⟨t, r, p, rfl, _⟩ := h
    rfl
  · obtain ⟨t, r, p, rfl, hp, gd, k⟩ := h
    have len3 : (tupV p r).length = 3 := rfl
    refine ⟨_, pss_cons (ps_if (PW.pt (pw_or (pt_not (pt_val (pe_isi T.isi rfl rfl T.tuple PyProof.Rows.boot_tuple (pv 0))))
        (pw_or1 (pt_cmpR op_ne (pe_callB call_len_seq (by rfl) T.len PySem.boot_len (pa_cons (pv 0) pa_nil)) pe_int (nomark _))))) (pss_one (ps_ret pe_bl)) pss_nil)
      (pss_cons (ps_asg (pv 0) (pg_tup rfl (pgs_cons (pg_name (i := 1) sc26.nd rfl (.inl rfl)) (pgs_cons (pg_name (i := 2) sc26.nd rfl (.inl rfl)) (pgs_cons (pg_name (i := 3) sc26.nd rfl (.inl rfl)) pgs_nil)))))
      (pss_cons (ps_if (PW.pt (pw_or (pt_not (pt_val (pe_def D1 hr rfl (pa_cons (pv 1) (pa_cons pe_int pa_nil)))))
        (pw_or1 (pt_not (pt_val (pe_def D1 hr rfl (pa_cons (pv 2) (pa_cons (pe_gI T.MOST_NAME rfl) pa_nil)))))))) (pss_one (ps_ret pe_bl)) pss_nil)
      (pss_cons (ps_if (PW.pt (pw_or (pt_not (pt_val (pe_isi T.isi rfl rfl T.list PyProof.Rows.boot_list (pv 3))))
        (pw_or1 (pt_cmpR op_gt (pe_callB call_len_seq (by rfl) T.len PySem.boot_len (pa_cons (pv 3) pa_nil)) (pe_gI T.MOST_NUMBERS rfl) (nomark _))))) (pss_one (ps_ret pe_bl)) pss_nil)
      (pss_one (ps_ret (pe_callB (cr_all rfl) (by rfl) T.all PyProof.Rows.boot_all (pa_cons (pe_lc (own := [("number", 4)]) (g := gName 4) rfl sc26.nd (pi_list (pv 3)) (blkOk_by (N := ["thing", "kind", "name", "numbers", "number"]) (sc := defScope s26) (by decide +kernel))
      (fun _ _ _ _ _ => pg_name (i := 4) sc26.nd rfl (Or.inl rfl)) (fun _ _ _ _ _ => pts_nil) (fun _ _ _ _ _ => pe_def D2 hr rfl (pa_cons (pv 4) pa_nil))) pa_nil))))))), ?_⟩
    -- a tuple of three
    refine ⟨_, rfl, isi_tup hp.1 ⟨true, rfl, ?_⟩⟩
    refine iteF ?_
    refine ⟨_, rfl, t, _, rfl, .inr (SqT.of hp.1), rfl, false, ?_, ?_⟩
    · rw [len3]; rfl
    refine iteF ?_
    refine ⟨_, rfl, t, _, rfl, SqT.of hp.1, rfl, _, _, rfl, _, _, rfl, _, _, rfl, rfl, ?_⟩
    -- kind, name
    refine ⟨_, rfl, [p.k], 1, rfl, by show 1 ≤ 1; decide, by show ((1 : Nat) : Int) ≤ 1; decide, by show 1 ≤ 5000; decide, fun c hc => ?_, fun H1 s1 => ⟨true, rfl, ?_⟩⟩
    · rw [List.mem_singleton] at hc
      subst hc
      exact gd.k
    refine iteF ?_
    have n8 := gd.n8
    refine ⟨_, rfl, p.n, 8, rfl, gd.n1, by omega, by omega, gd.ns, fun H2 s2 => ⟨true, rfl, ?_⟩⟩
    refine iteF ?_
    have hr2 := s2 _ _ (s1 _ _ hp.2)
    have xl := gd.len
    -- numbers
    refine ⟨_, rfl, isi_lst hr2 ⟨true, rfl, ?_⟩⟩
    refine iteF ?_
    refine ⟨_, rfl, r, _, rfl, .inl (SqL.of hr2), _, _, rfl, rfl, false, ?_, ?_⟩
    · exact congrArg V.bl (decide_eq_false (by rw [List.length_map]; omega))
    refine iteF ?_
    refine ⟨_, rfl, r, rfl, ⟨_, SqL.of hr2⟩, fun Dl hD => ?_⟩
    refine lc_map (p.xs.map fun _ => V.bl true) hD (by rw [List.length_map]; exact five' (by omega)) (fun i H3 hi s3 => ?_) (fun H3 s3 => ?_) (fun i x H3 H4 hi s3 hy G hG => ?_) (fun H3 s3 e3 => ?_)
    · rw [List.length_map] at hi
      obtain ⟨x, hx⟩ := lt_get hi
      exact ⟨_, _, SqL.of (s3 _ _ hr2), map_get hx⟩
    · exact ⟨_, SqL.of (s3 _ _ hr2), by rw [List.length_map, List.length_map]; exact Nat.le_refl _⟩
    · obtain ⟨rfl, hx⟩ := hy
      obtain ⟨z, hz, rfl⟩ := get_map (hx _ (SqL.of (s3 _ _ hr2)))
      refine hG _ _ rfl fun Q2 hQ => ?_
      have z6 := gd.xs z (get_mem hz)
      exact ⟨_, rfl, z, rfl, z6.1, z6.2, hQ _ _ (Same.refl _) (map_get hz)⟩
    · refine ⟨Dl, p.xs.map fun _ => true, rfl, SqL.of (by rw [e3, List.map_map]; rfl), ?_⟩
      have e : (p.xs.map fun _ => true).all id = true := by
        rw [List.all_eq_true]
        intro x hx
        obtain ⟨_, _, rfl⟩ := List.mem_map.mp hx
        rfl
      rw [e]
      exact k H3 ((s1.trans s2).trans s3)

/-! ### need_part -/
abbrev s27 : Stmt := top 27
theorem sc27 : FnScope ["part"] ["part"] (defScope s27) := ⟨rfl, rfl, rfl, by decide +kernel, rfl, by decide +kernel, by decide +kernel⟩
def spNeed : Sp := fun vs H Q _ => ∃ (t r : Addr) (p : Pt), vs = [.ref t] ∧ PartT H t p r ∧ Good p ∧ ∀ H', Same H H' → Q .non H'
theorem d_need (A : At K mg "need_part" s27 ["part"]) (D : Def P w K mg base "is_part" ["thing"] 2 spIsPart) : Def P w K mg base "need_part" ["part"] 3 spNeed := by
  obtain ⟨f, fd, F, g, b⟩ := A
  refine ⟨f, fd, ?_, g, F.kp, b⟩
  refine F.ok sc27 (fun vs H Q E h => ?_) (fun cdv A outer s H vs Q E hr h => ?_)
  · obtain ⟨t, r, p, rfl, _⟩ := h
    rfl
  · obtain ⟨t, r, p, rfl, hp, gd, k⟩ := h
    refine ⟨_, pss_one (ps_if (pt_not (pt_val (pe_def D hr rfl (pa_cons (pv 0) pa_nil)))) pss_never pss_nil), ?_⟩
    refine ⟨_, rfl, t, r, p, rfl, hp, gd, fun H1 s1 => ⟨true, rfl, ?_⟩⟩
    refine iteF ?_
    exact k H1 s1

/-! ### part_numbers -/
abbrev s28 : Stmt := top 28
theorem sc28 : FnScope ["part", "kind", "name", "numbers", "found", "sign"] ["part"] (defScope s28) := ⟨rfl, rfl, rfl, by decide +kernel, rfl, by decide +kernel, by decide +kernel⟩
def spPartNums : Sp := fun vs H Q _ => ∃ (t r : Addr) (p : Pt), vs = [.ref t] ∧ PartT H t p r ∧ Good p ∧ ∀ H' l, Same H H' → H l = none → H' l = some (.lst ((partNums p).map V.int)) → Q (.ref l) H'
theorem d_partnums (A : At K mg "part_numbers" s28 ["part"]) (T : Txt mg) (D1 : Def P w K mg base "need_part" ["part"] 3 spNeed) (D2 : Def P w K mg base "number_of_sign" ["sign"] 1 spNumOf) (D3 : Def P w K mg base "two_numbers" ["number"] 1 spTwo) :
    Def P w K mg base "part_numbers" ["part"] 4 spPartNums := by
  obtain ⟨f, fd, F, g, b⟩ := A
  refine ⟨f, fd, ?_, g, F.kp, b⟩
  refine F.ok sc28 (fun vs H Q E h => ?_) (fun cdv A outer s H vs Q E hr h => ?_)
  · obtain ⟨t, r, p, rfl, _⟩ := h
    rfl
  · obtain ⟨t, r, p, rfl, hp, gd, k⟩ := h
    have hr1 : Room 1 _ := hr.mono (by decide)
    refine ⟨_, pss_cons (ps_expr (pe_def D1 hr rfl (pa_cons (pv 0) pa_nil)))
      (pss_cons (ps_asg (pv 0) (pg_tup rfl (pgs_cons (pg_name (i := 1) sc28.nd rfl (.inl rfl)) (pgs_cons (pg_name (i := 2) sc28.nd rfl (.inl rfl)) (pgs_cons (pg_name (i := 3) sc28.nd rfl (.inl rfl)) pgs_nil)))))
      (pss_cons (ps_set (i := 4) sc28.nd rfl (.inl rfl) (pe_lst (pa_cons (pe_def D2 hr1 rfl (pa_cons (pv 1) pa_nil)) (pa_cons (pe_callB call_len (by rfl) T.len PySem.boot_len (pa_cons (pv 2) pa_nil)) pa_nil))))
      (pss_cons (ps_aug (i := 4) sc28.nd rfl (.inl rfl) (pe_lc (own := [("sign", 5)]) (g := gName 5) rfl sc28.nd (pi_str (pv 2)) (blkOk_by (N := ["part", "kind", "name", "numbers", "found", "sign"]) (sc := defScope s28) (by decide +kernel))
        (fun _ _ _ _ _ => pg_name (i := 5) sc28.nd rfl (Or.inl rfl)) (fun _ _ _ _ _ => pts_nil) (fun _ _ _ _ _ => pe_def D2 hr1 rfl (pa_cons (pv 5) pa_nil))) iop_ext)
      (pss_cons (ps_aug (i := 4) sc28.nd rfl (.inl rfl) (pe_callTy call_list_of (by rfl) T.list PyProof.Rows.boot_list (pa_cons (pe_def D3 hr1 rfl (pa_cons (pe_callB call_len_seq (by rfl) T.len PySem.boot_len (pa_cons (pv 3) pa_nil)) pa_nil)) pa_nil)) iop_ext)
      (pss_one (ps_ret (pe_op op_cat (pv 4) (pv 3)))))))), ?_⟩
    refine ⟨_, rfl, t, r, p, rfl, hp, gd, fun H1 s1 => ?_⟩
    have hp1 := hp.same s1
    have n8 := gd.n8
    have xl := gd.len
    -- kind, name, numbers = part
    refine ⟨_, rfl, t, _, rfl, SqT.of hp1.1, rfl, _, _, rfl, _, _, rfl, _, _, rfl, rfl, ?_⟩
    -- found = [..]
    refine ⟨_, rfl, p.k, rfl, gd.k.mem, _, rfl, _, p.n.length, rfl, ⟨by rw [S_len]; exact five' (by omega), (S_len _).symm⟩, (by show 2 ≤ sizeLine; decide), fun l hl => ?_⟩
    have hl0 : H l = none := free_of s1 hl
    have s2 : Same H1 (upd H1 l (.lst [.int (num p.k), .int (p.n.length : Int)])) := same_upd hl
    -- found += [..]
    refine ⟨_, rfl, _, rfl, S p.n, rfl, fun Dl hD => ?_⟩
    have es : (S p.n).cps.size = p.n.length := List.size_toArray
    refine lc_map ((p.n.map num).map V.int) hD (by rw [List.length_map, List.length_map]; exact five' (by omega)) (fun i H3 hi s3 => ?_) (fun H3 s3 => ?_) (fun i x H3 H4 hi s3 hy G hG => ?_) (fun H3 s3 e3 => ?_)
    · rw [List.length_map, List.length_map] at hi
      exact Nat.lt_of_lt_of_eq hi es.symm
    · rw [List.length_map, List.length_map]
      exact Nat.le_of_eq es
    · obtain ⟨rfl, c, hc, rfl⟩ := hy
      have hc' : p.n[i]? = some c := by
        rw [← hc]
        exact List.getElem?_toArray.symm
      refine hG _ _ rfl fun Q2 hQ => ?_
      exact ⟨_, rfl, c, rfl, (gd.ns c (get_mem hc')).mem, hQ _ _ (Same.refl _) (map_get (map_get hc'))⟩
    have hl3 : H3 l = some (.lst [.int (num p.k), .int (p.n.length : Int)]) := s3 _ _ upd_same
    refine ⟨l, Dl, _, _, rfl, rfl, hl3, e3, ?_, ?_⟩
    · rw [List.length_map, List.length_map]
      exact five' (by show 2 + _ ≤ 5000; omega)
    have s13 : Same H H3 := (s1.trans s2).trans s3
    have s4 : Same H (upd H3 l (.lst ([.int (num p.k), .int (p.n.length : Int)] ++ (p.n.map num).map V.int))) := put_same s13 hl0
    have hp4 := hp.same s4
    -- found += list(two_numbers(len(numbers)))
    refine ⟨_, rfl, _, rfl, r, _, rfl, .inl (SqL.of hp4.2), _, rfl, ?_, fun q hq => ?_⟩
    · omega
    rw [List.length_map]
    refine ⟨q, _, rfl, .inr (SqT.of upd_same), fun u hu => ?_⟩
    have nul : l ≠ u := ne_of_none (same_upd hq _ _ upd_same) hu
    have nql : l ≠ q := ne_of_none upd_same hq
    refine ⟨l, u, _, _, rfl, rfl, (upd_ne nul).trans ((upd_ne nql).trans upd_same), upd_same, ?_, ?_⟩
    · rw [List.length_append, List.length_map, List.length_map, List.length_map]
      exact five' (by show 2 + _ + 2 ≤ 5000; omega)
    have s5 := put_same (o := .lst (([.int (num p.k), .int (p.n.length : Int)] ++ (p.n.map num).map V.int) ++ (two (p.xs.length : Int)).map V.int)) ((s4.trans (same_upd (o := .tup ((two (p.xs.length : Int)).map V.int)) hq)).trans (same_upd (o := .lst ((two (p.xs.length : Int)).map V.int)) hu)) hl0
    have hp5 := hp.same s5
    -- return found + numbers
    refine ⟨_, rfl, _, rfl, l, r, _, _, rfl, rfl, upd_same, hp5.2, ?_, fun z hz => ?_⟩
    · rw [List.length_append, List.length_append, List.length_map, List.length_map, List.length_map, List.length_map]
      exact five' (by show 2 + _ + 2 + _ ≤ 5000; omega)
    refine k _ z (s5.trans (same_upd hz)) (free_of s5 hz) ?_
    rw [upd_same]
    refine congrArg (fun l => some (HO.lst l)) ?_
    unfold partNums
    rw [List.map_cons, List.map_cons, List.map_append, List.map_append, List.append_assoc, List.append_assoc]
    rfl
end
end Cf
namespace Cf
open PySem L2
theorem at_mid {a c : List Int} {x : Int} {L : List Int} {z : Int} (e : L = a ++ x :: c) (hz : z = (a.length : Int)) : atI (L.map V.int) z = some (.int x) := by
  refine at_of hz ?_
  rw [e]
  exact map_get (get_mid a x c)
theorem cut_at {a b c L : List Int} {i j : Int} (e : L = a ++ (b ++ c)) (hi : i = (a.length : Int)) (hj : j = ((a.length + b.length : Nat) : Int)) : cutV (L.map V.int) (some i) (some j) = b.map V.int := by
  rw [e, List.map_append, List.map_append]
  exact cut_mid _ _ _ (by rw [List.length_map]; exact hi) (by rw [List.length_map, List.length_map]; exact hj)
section
variable {P : Program} {w : World} {K : PySem.W.Frag} {mg : Str → Option Value} {base : Heap}
/-! ### part_at -/
abbrev s29 : Stmt := top 29
theorem sc29 : FnScope ["numbers", "place", "behind", "end", "name", "part", "number"] ["numbers", "place"] (defScope s29) := ⟨rfl, rfl, rfl, by decide +kernel, rfl, by decide +kernel, by decide +kernel⟩
def spPartAt (K : PySem.W.Frag) : Sp := fun vs H Q _ => ∃ (a : Addr) (pre post : List Int) (p : Pt), vs = [.ref a, .int (pre.length : Int)] ∧ SqL K H a ((pre ++ (partNums p ++ post)).map V.int) ∧ Good p ∧ (pre ++ (partNums p ++ post)).length ≤ 5000 ∧
  ∀ H' u t r, Same H H' → H' u = some (.tup [.ref t, .int ((pre ++ partNums p).length : Int)]) → PartT H' t p r → Q (.ref u) H'
theorem d_partat (A : At K mg "part_at" s29 ["numbers", "place"]) (T : Txt mg) (D1 : Def P w K mg base "one_number" ["high", "low"] 1 spOne) (D2 : Def P w K mg base "sign_of_number" ["number"] 1 spSignOf) (D3 : Def P w K mg base "need_part" ["part"] 3 spNeed) :
    Def P w K mg base "part_at" ["numbers", "place"] 4 (spPartAt K) := by
  obtain ⟨f, fd, F, g, b⟩ := A
  refine ⟨f, fd, ?_, g, F.kp, b⟩
  refine F.ok sc29 (fun vs H Q E h => ?_) (fun cdv A outer s H vs Q E hr h => ?_)
  · obtain ⟨a, pre, post, p, rfl, _⟩ := h
    rfl
  · obtain ⟨a, pre, post, p, rfl, hS, gd, hl, k⟩ := h
    have hr1 : Room 1 _ := hr.mono (by decide)
    have n1 := gd.n1
    have n8 := gd.n8
    have xl := gd.len
    have e0 : (pre ++ (partNums p ++ post)) = pre ++ num p.k :: ((p.n.length : Int) :: (p.n.map num ++ ((p.xs.length : Int) / 64 :: (p.xs.length : Int) % 64 :: (p.xs ++ post)))) := by simp [partNums, two]
    have e1 : (pre ++ (partNums p ++ post)) = (pre ++ [num p.k]) ++ (p.n.length : Int) :: (p.n.map num ++ ((p.xs.length : Int) / 64 :: (p.xs.length : Int) % 64 :: (p.xs ++ post))) := by simp [partNums, two]
    have e2 : (pre ++ (partNums p ++ post)) = (pre ++ [num p.k, (p.n.length : Int)]) ++ (p.n.map num ++ ((p.xs.length : Int) / 64 :: (p.xs.length : Int) % 64 :: (p.xs ++ post))) := by simp [partNums, two]
    have e3 : (pre ++ (partNums p ++ post)) = (pre ++ [num p.k, (p.n.length : Int)] ++ p.n.map num) ++ ((p.xs.length : Int) / 64 :: ((p.xs.length : Int) % 64 :: (p.xs ++ post))) := by simp [partNums, two]
    have e4 : (pre ++ (partNums p ++ post)) = (pre ++ [num p.k, (p.n.length : Int)] ++ p.n.map num ++ [(p.xs.length : Int) / 64]) ++ ((p.xs.length : Int) % 64 :: (p.xs ++ post)) := by simp [partNums, two]
    have e5 : (pre ++ (partNums p ++ post)) = (pre ++ [num p.k, (p.n.length : Int)] ++ p.n.map num ++ two (p.xs.length : Int)) ++ (p.xs ++ post) := by simp [partNums, two]
    have eE : ((pre ++ partNums p).length : Int) = (pre.length : Int) + 2 + (p.n.length : Int) + 2 + (p.xs.length : Int) := by
      rw [List.length_append, partNums_len]
      omega
    have eL : (pre ++ (partNums p ++ post)).length = pre.length + (4 + p.n.length + p.xs.length) + post.length := by
      rw [List.length_append, List.length_append, partNums_len]
      omega
    rw [eE] at k
    generalize hG : pre ++ (partNums p ++ post) = L at *
    have lm : (L.map V.int).length = L.length := List.length_map ..
    refine ⟨_, pss_cons (ps_if (pt_cmpR op_gt (pe_op op_add (pv 1) pe_int) (pe_callB call_len_seq (by rfl) T.len PySem.boot_len (pa_cons (pv 0) pa_nil)) (nomark _)) pss_never pss_nil)
      (pss_cons (ps_set (i := 2) sc29.nd rfl (.inl rfl) (pe_op op_add (pe_op op_add (pv 1) pe_int) (pe_ix ix_list (pv 0) (pe_op op_add (pv 1) pe_int) (fun _ _ => rfl))))
      (pss_cons (ps_if (pt_cmpR op_gt (pe_op op_add (pv 2) pe_int) (pe_callB call_len_seq (by rfl) T.len PySem.boot_len (pa_cons (pv 0) pa_nil)) (nomark _)) pss_never pss_nil)
      (pss_cons (ps_set (i := 3) sc29.nd rfl (.inl rfl) (pe_op op_add (pe_op op_add (pv 2) pe_int) (pe_def D1 hr1 rfl (pa_cons (pe_ix ix_list (pv 0) (pv 2) (fun _ _ => rfl)) (pa_cons (pe_ix ix_list (pv 0) (pe_op op_add (pv 2) pe_int) (fun _ _ => rfl)) pa_nil)))))
      (pss_cons (ps_if (pt_cmpR op_gt (pv 3) (pe_callB call_len_seq (by rfl) T.len PySem.boot_len (pa_cons (pv 0) pa_nil)) (nomark _)) pss_never pss_nil)
      (pss_cons (ps_set (i := 4) sc29.nd rfl (.inl rfl) (pe_join pe_str (pe_lc (own := [("number", 6)]) (g := gName 6) rfl sc29.nd (pi_list (pe_slice sl_list (pv 0) (po_some (pe_op op_add (pv 1) pe_int)) (po_some (pv 2)))) (blkOk_by (N := ["numbers", "place", "behind", "end", "name", "part", "number"]) (sc := defScope s29) (by decide +kernel))
        (fun _ _ _ _ _ => pg_name (i := 6) sc29.nd rfl (Or.inl rfl)) (fun _ _ _ _ _ => pts_nil) (fun _ _ _ _ _ => pe_def D2 hr1 rfl (pa_cons (pv 6) pa_nil)))))
      (pss_cons (ps_set (i := 5) sc29.nd rfl (.inl rfl) (pe_tup (pa_cons (pe_def D2 hr1 rfl (pa_cons (pe_ix ix_list (pv 0) (pv 1) (fun _ _ => rfl)) pa_nil)) (pa_cons (pv 4) (pa_cons (pe_slice sl_list (pv 0) (po_some (pe_op op_add (pv 2) pe_int)) (po_some (pv 3))) pa_nil)))))
      (pss_cons (ps_expr (pe_def D3 hr rfl (pa_cons (pv 5) pa_nil)))
      (pss_one (ps_ret (pe_tup (pa_cons (pv 5) (pa_cons (pv 3) pa_nil)))))))))))), ?_⟩
    -- if place + 2 > len(numbers)
    refine ⟨_, rfl, _, _, rfl, rfl, _, rfl, a, _, rfl, .inl hS, _, _, rfl, rfl, false, congrArg V.bl (decide_eq_false (by omega)), ?_⟩
    refine iteF ?_
    -- behind
    refine ⟨_, rfl, _, _, rfl, rfl, _, rfl, _, rfl, _, _, rfl, rfl, a, _, _, _, rfl, rfl, hS, at_mid e1 (by rw [List.length_append]; rfl), _, _, rfl, rfl, ?_⟩
    refine ⟨_, rfl, _, _, rfl, rfl, _, rfl, a, _, rfl, .inl hS, _, _, rfl, rfl, false, congrArg V.bl (decide_eq_false (by omega)), ?_⟩
    refine iteF ?_
    -- end
    refine ⟨_, rfl, _, _, rfl, rfl, _, rfl, _, rfl, a, _, _, _, rfl, rfl, hS, at_mid e3 (by simp; omega), _, rfl, _, rfl, _, _, rfl, rfl, a, _, _, _, rfl, rfl, hS, at_mid e4 (by simp; omega), ?_⟩
    refine ⟨_, _, rfl, by omega, by omega, by omega, by omega, _, _, rfl, rfl, ?_⟩
    have e64 : (p.xs.length : Int) / 64 * 64 + (p.xs.length : Int) % 64 = (p.xs.length : Int) := by omega
    rw [e64]
    refine ⟨_, rfl, _, rfl, a, _, rfl, .inl hS, _, _, rfl, rfl, false, congrArg V.bl (decide_eq_false (by omega)), ?_⟩
    refine iteF ?_
    -- name
    refine ⟨⟨_, rfl⟩, ?_⟩
    refine ⟨_, rfl, _, rfl, _, _, rfl, rfl, _, rfl, _, rfl, _, rfl, a, _, rfl, hS, fun c hc => ?_⟩
    have ec : cutV (L.map V.int) (some ((pre.length : Int) + 2)) (some ((pre.length : Int) + 2 + (p.n.length : Int))) = (p.n.map num).map V.int := cut_at e2 (by rw [List.length_append]; rfl) (by rw [List.length_append, List.length_map]; show _ = ((pre.length + 2 + p.n.length : Nat) : Int); omega)
    rw [ec]
    have s1 : Same H (upd H c (.lst ((p.n.map num).map V.int))) := same_upd hc
    have hc1 : upd H c (.lst ((p.n.map num).map V.int)) c = some (.lst ((p.n.map num).map V.int)) := upd_same
    generalize upd H c (.lst ((p.n.map num).map V.int)) = H1 at *
    refine ⟨c, rfl, ⟨_, SqL.of hc1⟩, fun Dl hD => ?_⟩
    refine lc_map (p.n.map fun x => V.str (S [x])) hD (by rw [List.length_map]; exact five' (by omega)) (fun i H3 hi s3 => ?_) (fun H3 s3 => ?_) (fun i x H3 H4 hi s3 hy G hG => ?_) (fun H3 s3 e3' => ?_)
    · rw [List.length_map] at hi
      obtain ⟨x, hx⟩ := lt_get hi
      exact ⟨_, _, SqL.of (s3 _ _ hc1), map_get (map_get hx)⟩
    · exact ⟨_, SqL.of (s3 _ _ hc1), by rw [List.length_map, List.length_map, List.length_map]; exact Nat.le_refl _⟩
    · obtain ⟨rfl, hx⟩ := hy
      obtain ⟨z, hz, rfl⟩ := get_map (hx _ (SqL.of (s3 _ _ hc1)))
      obtain ⟨y, hy, rfl⟩ := get_map hz
      refine hG _ _ rfl fun Q2 hQ => ?_
      have ys := (gd.ns y (get_mem hy)).mem
      refine ⟨_, rfl, _, rfl, num_nn _, num_le ys, ?_⟩
      rw [sign_num ys]
      exact hQ _ _ (Same.refl _) (map_get hy)
    refine ⟨_, Dl, p.n.map (fun c => S [c]), rfl, rfl, .inl (SqL.of ?_), join_room _ (by omega), ?_⟩
    · rw [e3', List.map_map]
      rfl
    rw [empty_S, join_signs]
    have s13 := s1.trans s3
    have hS3 := s13.seq hS
    -- part = (.., name, ..)
    refine ⟨_, rfl, _, rfl, a, _, _, _, rfl, rfl, hS3, at_mid e0 rfl, _, rfl, num_nn _, num_le gd.k.mem, ?_⟩
    rw [sign_num gd.k.mem]
    refine ⟨_, rfl, _, rfl, _, rfl, _, _, rfl, rfl, _, rfl, _, rfl, _, rfl, a, _, rfl, hS3, fun r hr' => ?_⟩
    have ex : cutV (L.map V.int) (some ((pre.length : Int) + 2 + (p.n.length : Int) + 2)) (some ((pre.length : Int) + 2 + (p.n.length : Int) + 2 + (p.xs.length : Int))) = p.xs.map V.int := cut_at e5 (by simp [two]; omega) (by simp [two]; omega)
    rw [ex]
    refine ⟨(by show 3 ≤ sizeLine; decide), fun t ht => ?_⟩
    have s4 : Same H3 (upd (upd H3 r (.lst (p.xs.map V.int))) t (.tup (tupV p r))) := (same_upd hr').trans (same_upd ht)
    have ntr : r ≠ t := ne_of_none upd_same ht
    have pt : PartT (upd (upd H3 r (.lst (p.xs.map V.int))) t (.tup (tupV p r))) t p r := ⟨upd_same, (upd_ne ntr).trans upd_same⟩
    -- need_part(part); return
    refine ⟨_, rfl, t, r, p, rfl, pt, gd, fun H5 s5 => ?_⟩
    refine ⟨_, rfl, _, rfl, (by show 2 ≤ sizeLine; decide), fun u hu => ?_⟩
    exact k _ u t r (((s13.trans s4).trans s5).trans (same_upd hu)) upd_same ((pt.same s5).same (same_upd hu))
end
end Cf
namespace Cf
open PySem L2

/-! ### d.pop(t), t a tuple that is there -/
section
variable {X : Cx}
def rPopT1 : V → List V → Hp → VK → Prop := fun x xs H Q => ∃ (a : Addr) (kvs : List (List L2.Key × V)) (k : List L2.Key) (b : Addr) (v : V), x = .ref a ∧ xs = [.ref b] ∧ H a = some (.dT kvs) ∧ H b = some (.tup (k.map kV)) ∧
  valV kvs k = some v ∧ Q v (upd H a (.dT (dropK kvs k)))
theorem mt_popT1 (hu : X.A.units + 1 < cLine) : MtR X "dict.pop" rPopT1 := by
  intro pins s σ H x xs v us Q I rx rxs h
  obtain ⟨a, kvs, k, b, y, rfl, rfl, ha, hb, hy, q1⟩ := h
  cases rx
  obtain ⟨u1, rfl, r1⟩ := vals1 rxs
  cases r1
  obtain ⟨z, hd, xs', rel, dd⟩ := dt_of I.hok ha
  have hz : xs'.length ≤ sizeLine := by rw [← Paired.length rel]; exact z
  have r := rel.val k
  rw [hy] at r
  cases ep : atKey xs' k with
  | none =>
    rw [ep] at r
    exact (show False from r).elim
  | some p =>
    rw [ep] at r
    refine call_pop_heap (hsz := hz) (knd := tupleKind (mixKind X.prog X.w)) (k := k) (more := []) (.inl rfl) (PySem.F.args_dict_pop_2 _ _) (tupleKind_room_in1 hu) (key_of I.hok hb) hd dd ep fun h' dd' hs => ?_
    obtain ⟨o, es, ep', hq, h2, h3, h4, _, h5⟩ := dd'
    have I2 : Inv X pins σ (upd H a (.dT (dropK kvs k))) { s with heap := h', toks := s.toks + (tupleKind (mixKind X.prog X.w)).draws k } :=
      d_write I (by rw [ha]; exact True.intro) hs ⟨o, hq⟩ ⟨Nat.le_trans (dropK_le kvs k) z, hd, _, (L2.DX.KT_drop k rel).keeps (fun c ys ec => (by rw [upd_ne (ne_of ec ha (fun z => nomatch z))]; exact ec)), o, es, ep', hq, h2, h3, h4, h5⟩
    exact ⟨y, _, I2, r, q1⟩
end

/-! ### a folio's fields -/
theorem ks_ : ¬ (("kept" : Str) = "size") := by decide +kernel
def flds (d : Addr) (z : Int) : List (Str × V) := putF "size" (.int z) (putF "kept" (.ref d) [])
theorem flds_eq (d : Addr) (z : Int) : flds d z = ([("kept", V.ref d), ("size", V.int z)] : List (Str × V)) := by
  show (if ("kept" : Str) = "size" then [(("kept" : Str), V.int z)] else (("kept" : Str), V.ref d) :: putF "size" (V.int z) []) = ([("kept", V.ref d), ("size", V.int z)] : List (Str × V))
  rw [if_neg ks_]
  all_goals rfl
theorem flds_kept (d : Addr) (z : Int) : (flds d z).lookup ("kept" : Str) = some (.ref d) := by
  unfold flds
  rw [lookup_putF, if_neg ks_, lookup_putF, if_pos rfl]
theorem flds_size (d : Addr) (z : Int) : (flds d z).lookup ("size" : Str) = some (.int z) := by
  unfold flds
  rw [lookup_putF, if_pos rfl]
theorem flds_no (d : Addr) (z : Int) {m : Str} (h1 : ¬ m = "size") (h2 : ¬ m = "kept") : (flds d z).lookup m = none := by
  unfold flds
  rw [lookup_putF, if_neg h1, lookup_putF, if_neg h2]
  all_goals rfl
theorem flds_put (d : Addr) (z y : Int) : putF "size" (.int y) (flds d z) = flds d y := by
  rw [flds_eq, flds_eq]
  show (if ("kept" : Str) = "size" then _ else (("kept" : Str), V.ref d) :: (if ("size" : Str) = "size" then [(("size" : Str), V.int y)] else _)) = ([("kept", V.ref d), ("size", V.int y)] : List (Str × V))
  rw [if_neg ks_, if_pos rfl]
theorem flds_len (d : Addr) (z : Int) : (flds d z).length < 1000 := by rw [flds_eq]; show 2 < 1000; decide

/-! ### a folio's entries -/
def keyK (p : Pt) : List L2.Key := [Sum.inr (S [p.k]), Sum.inr (S p.n)]
theorem keyK_v (p : Pt) : (keyK p).map kV = [.str (S [p.k]), .str (S p.n)] := rfl
theorem keyK_inj {p q : Pt} (h : keyK p = keyK q) : Cf.key p = Cf.key q := by
  unfold keyK at h
  injection h with h1 h2
  injection h2 with h2 _
  injection h1 with h1
  injection h2 with h2
  have e1 := S_inj h1
  have e2 := S_inj h2
  injection e1 with e1
  unfold Cf.key
  rw [e1, e2]
theorem keyK_of {p q : Pt} (h : Cf.key p = Cf.key q) : keyK p = keyK q := by
  have h1 : p.k = q.k := congrArg (·.1) h
  have h2 : p.n = q.n := congrArg (·.2) h
  unfold keyK
  rw [h1, h2]
abbrev Ent := Pt × Addr
def ent (e : Ent) : List L2.Key × V := (keyK e.1, V.ref e.2)
theorem val_none : ∀ {es : List Ent} {p : Pt}, Cf.key p ∉ (es.map (·.1)).map Cf.key → valV (es.map ent) (keyK p) = none
  | [], _, _ => rfl
  | e :: r, p, h => by
    have h1 : ¬ keyK e.1 = keyK p := fun q => h (by rw [List.map_cons, List.map_cons, keyK_inj q]; exact List.mem_cons_self)
    show valV (ent e :: r.map ent) (keyK p) = none
    rw [valV_neg (p := ent e) h1]
    exact val_none fun hm => h (List.mem_cons_of_mem _ hm)
theorem val_some : ∀ {es : List Ent} {e : Ent}, ((es.map (·.1)).map Cf.key).Nodup → e ∈ es → valV (es.map ent) (keyK e.1) = some (.ref e.2)
  | [], _, _, h => by cases h
  | x :: r, e, hn, h => by
    rw [List.map_cons, List.map_cons, List.nodup_cons] at hn
    rcases List.mem_cons.mp h with rfl | h
    · exact valV_pos (p := ent e) rfl
    · have h1 : ¬ keyK x.1 = keyK e.1 := fun q => hn.1 (by rw [keyK_inj q]; exact List.mem_map.mpr ⟨e.1, List.mem_map.mpr ⟨e, h, rfl⟩, rfl⟩)
      show valV (ent x :: r.map ent) (keyK e.1) = _
      rw [valV_neg (p := ent x) h1]
      exact val_some hn.2 h
theorem drop_ent : ∀ {es : List Ent} {i : Nat} {e : Ent}, ((es.map (·.1)).map Cf.key).Nodup → es[i]? = some e → dropK (es.map ent) (keyK e.1) = (es.eraseIdx i).map ent
  | [], i, e, _, h => by simp at h
  | x :: r, 0, e, hn, h => by
    have hx : x = e := Option.some.inj h
    subst hx
    rw [List.map_cons, List.map_cons, List.nodup_cons] at hn
    show dropK (ent x :: r.map ent) (keyK x.1) = r.map ent
    rw [dropK_pos (p := ent x) (k := keyK x.1) rfl]
    refine dropK_no fun hm => hn.1 ?_
    rw [List.map_map] at hm
    obtain ⟨y, hy, q⟩ := List.mem_map.mp hm
    have q' : Cf.key y.1 = Cf.key x.1 := keyK_inj q
    rw [← q']
    exact List.mem_map.mpr ⟨y.1, List.mem_map.mpr ⟨y, hy, rfl⟩, rfl⟩
  | x :: r, i + 1, e, hn, h => by
    rw [List.map_cons, List.map_cons, List.nodup_cons] at hn
    have he : e ∈ r := List.mem_of_getElem? (l := r) (i := i) h
    have h1 : ¬ keyK x.1 = keyK e.1 := fun q => hn.1 (by rw [keyK_inj q]; exact List.mem_map.mpr ⟨e.1, List.mem_map.mpr ⟨e, he, rfl⟩, rfl⟩)
    show dropK (ent x :: r.map ent) (keyK e.1) = ent x :: (r.eraseIdx i).map ent
    rw [dropK_neg (p := ent x) h1, drop_ent hn.2 h]
theorem erase_map {α β : Type} (f : α → β) : ∀ (l : List α) (i : Nat), (l.eraseIdx i).map f = (l.map f).eraseIdx i
  | [], _ => rfl
  | _ :: _, 0 => rfl
  | x :: r, i + 1 => by
    show f x :: (r.eraseIdx i).map f = f x :: (r.map f).eraseIdx i
    rw [erase_map f r i]

/-! ### a folio on the heap -/
structure FolAt (C : Addr) (H : Hp) (p d : Addr) (ps : List Pt) : Prop where
  ex : ∃ (dx : Addr) (es : List Ent), es.map (·.1) = ps ∧ H p = some (.ins C dx (flds d (size ps))) ∧ H d = some (.dT (es.map ent)) ∧ ∀ e ∈ es, H e.2 = some (.lst (e.1.xs.map V.int))
/-- all but the folio is as it was -/
def Keep (p d : Addr) (H H' : Hp) : Prop := ∀ b o, H b = some o → b ≠ p → b ≠ d → H' b = some o
theorem FolAt.same {C : Addr} {H H' : Hp} {p d : Addr} {ps : List Pt} (h : FolAt C H p d ps) (s : Same H H') : FolAt C H' p d ps := by
  obtain ⟨dx, es, e, h1, h2, h3⟩ := h.ex
  exact ⟨dx, es, e, s _ _ h1, s _ _ h2, fun x hx => s _ _ (h3 x hx)⟩
/-- another folio's change -/
theorem FolAt.keep {C : Addr} {H H' : Hp} {p d q e : Addr} {ps qs : List Pt} (h : FolAt C H p d ps) (g : FolAt C H q e qs) (k : Keep q e H H') (hp : p ≠ q) (hd : d ≠ e) : FolAt C H' p d ps := by
  obtain ⟨dx, es, ee, h1, h2, h3⟩ := h.ex
  obtain ⟨dy, fs, ef, g1, g2, g3⟩ := g.ex
  exact ⟨dx, es, ee, k _ _ h1 hp (ne_of h1 g2 (by intro z; cases z)), k _ _ h2 (ne_of h2 g1 (by intro z; cases z)) hd, fun x hx => k _ _ (h3 x hx) (ne_of (h3 x hx) g1 (by intro z; cases z)) (ne_of (h3 x hx) g2 (by intro z; cases z))⟩
/-- what a class must have -/
structure Cl (K : PySem.W.Frag) (mg : Str → Option Value) (C : Addr) : Prop where
  cl : Cls K C
  nK : NoAttr K C "kept"
  nS : NoAttr K C "size"
  mgC : mg "Folio" = some (.ref C)
  makes : PySem.W.makesIn K C = true
  kpC : PySem.W.keepIn K (.ref C) = true
section
variable {X : Cx} {k : Nat} {ps : List Str} {sp : Sp} {m : Str} {pos apos p : Pos} {e o : Expr} {es : List Expr} {t : TA} {ta : TE} {C : Addr}
theorem pe_mdef {pl : Sem Bool} (D : MDef X.prog X.w X.K X.mg X.base C m ps k sp) (he : PE X o ta) (c : Cls X.K C) (hr : Room k X.A) (ha : PA X (e :: es) t)
    (hst : starEach (e :: es) X.env = (false, eval e X.env) :: starEach es X.env := by rfl) (hpl : (backTo pos (starEach es X.env)).any (·.1) = false := by rfl)
    (ht : eval (.Call (.Attribute o m apos) (e :: es) [] pos) X.env = (do
      let ov ← eval o X.env
      standAt apos.atName
      let (f, first) ← holding [ov] (getMethod ov m pl)
      callWith pos f first (backTo pos (starEach (e :: es) X.env)) (backToKw pos (keywordEach [] X.env))) := by rfl) :
    PE X (.Call (.Attribute o m apos) (e :: es) [] pos) (tMeth C m sp [] E0 ta t) := by
  obtain ⟨f, fd, G, M, b⟩ := D
  exact pe_meth (pl := pl) he c M G hr b .nil pass0 ha hst hpl ht
theorem pe_mk0 (D : MDef X.prog X.w X.K X.mg X.base C "__init__" ps k sp) (L : Cl X.K X.mg C) (hr : Room (k + 1) X.A) (hg : Gl X "Folio") : PE X (.Call (.Name "Folio" p) [] [] pos) (tMake C sp [] E0 tNil) := by
  obtain ⟨f, fd, G, M, b⟩ := D
  exact pe_make0 ⟨L.makes, M.at_, M.fn, L.kpC⟩ G hr hg L.mgC b .nil pass0
theorem pe_mdef0 {pl : Sem Bool} (D : MDef X.prog X.w X.K X.mg X.base C m ps k sp) (he : PE X o ta) (c : Cls X.K C) (hr : Room k X.A)
    (ht : eval (.Call (.Attribute o m apos) [] [] pos) X.env = (do
      let ov ← eval o X.env
      standAt apos.atName
      let (f, first) ← holding [ov] (getMethod ov m pl)
      callWith pos f first (backTo pos (starEach [] X.env)) (backToKw pos (keywordEach [] X.env))) := by rfl) :
    PE X (.Call (.Attribute o m apos) [] [] pos) (tMeth C m sp [] E0 ta tNil) := by
  obtain ⟨f, fd, G, M, b⟩ := D
  exact pe_meth0 (pl := pl) he c M G hr b .nil pass0 ht
end
section
variable {P : Program} {w : World} {K : PySem.W.Frag} {mg : Str → Option Value} {base : Heap} {C : Addr}

/-! ### __init__ -/
abbrev m0 : Stmt := inClass (top 34) 0
theorem scm0 : FnScope ["self"] ["self"] (defScope m0) := ⟨rfl, rfl, rfl, by decide +kernel, rfl, by decide +kernel, by decide +kernel⟩
def spInit (C : Addr) : Sp := fun vs H Q _ => ∃ (p dx : Addr), vs = [.ref p] ∧ H p = some (.ins C dx []) ∧ ∀ (d : Addr) (H' : Hp), H d = none → FolAt C H' p d [] → (∀ b o, H b = some o → b ≠ p → H' b = some o) → Q .non H'
theorem d_init (A : MAt K C "__init__" "Folio.__init__" m0 ["self"]) (T : Txt mg) (L : Cl K mg C) : MDef P w K mg base C "__init__" ["self"] 1 (spInit C) := by
  obtain ⟨f, fd, F, M, b⟩ := A
  refine ⟨f, fd, ?_, M, b⟩
  refine F.ok scm0 (fun vs H Q E h => ?_) (fun cdv A outer s H vs Q E hr h => ?_)
  · obtain ⟨p, dx, rfl, _⟩ := h
    rfl
  · obtain ⟨p, dx, rfl, hp, k⟩ := h
    refine ⟨_, pss_cons (ps_fld (pv 0) pe_dnewT rfl) (pss_one (ps_fld (pv 0) (pe_gI T.LEAST_SIGNS rfl) rfl)), ?_⟩
    intro d hd
    have npd : p ≠ d := ne_of_none hp hd
    refine ⟨_, rfl, p, C, dx, [], rfl, (by rw [upd_ne npd]; exact hp), L.cl, L.nK, (by show 0 < 1000; decide), _, rfl, p, C, dx, _, rfl, upd_same, L.cl, L.nS, (by show 1 < 1000; decide), ?_⟩
    refine k d _ hd ⟨dx, [], rfl, upd_same, by rw [upd_ne npd.symm, upd_ne npd.symm, upd_same]; rfl, fun e he => nomatch he⟩ fun b o e hb => ?_
    rw [upd_ne hb, upd_ne hb, upd_ne (ne_of_none e hd)]
    exact e

/-! ### need_there -/
abbrev m1 : Stmt := inClass (top 34) 1
theorem scm1 : FnScope ["self", "kind", "name"] ["self", "kind", "name"] (defScope m1) := ⟨rfl, rfl, rfl, by decide +kernel, rfl, by decide +kernel, by decide +kernel⟩
def spThere (C : Addr) : Sp := fun vs H Q _ => ∃ (p d : Addr) (ps : List Pt) (a : Pt), vs = [.ref p, .str (S [a.k]), .str (S a.n)] ∧ FolAt C H p d ps ∧ (ps.map Cf.key).Nodup ∧ Cf.key a ∈ ps.map Cf.key ∧ ∀ H', Same H H' → Q .non H'
theorem d_there (A : MAt K C "need_there" "Folio.need_there" m1 ["self", "kind", "name"]) (T : Txt mg) (L : Cl K mg C) : MDef P w K mg base C "need_there" ["self", "kind", "name"] 1 (spThere C) := by
  obtain ⟨f, fd, F, M, b⟩ := A
  refine ⟨f, fd, ?_, M, b⟩
  refine F.ok scm1 (fun vs H Q E h => ?_) (fun cdv A outer s H vs Q E hr h => ?_)
  · obtain ⟨p, d, ps, a, rfl, _⟩ := h
    rfl
  · obtain ⟨p, d, ps, a, rfl, FA, nd, hm, k⟩ := h
    have hu := hu_of hr
    obtain ⟨dx, es, ee, h1, h2, h3⟩ := FA.ex
    subst ee
    obtain ⟨a', ha', ea⟩ := List.mem_map.mp hm
    obtain ⟨e, he, rfl⟩ := List.mem_map.mp ha'
    refine ⟨_, pss_one (ps_if (PW.pt (pw_or (pt_not (pt_val (pe_isi T.isi rfl rfl T.str PyProof.Rows.boot_str (pv 1)))) (pw_or (pt_not (pt_val (pe_isi T.isi rfl rfl T.str PyProof.Rows.boot_str (pv 2))))
      (pw_or1 (pt_cmp (pc_dnotin hu (pe_tup (pa_cons (pv 1) (pa_cons (pv 2) pa_nil))) (pe_fld (pv 0) rfl))))))) pss_never pss_nil), ?_⟩
    refine ⟨_, rfl, isi_str ⟨true, rfl, ?_⟩⟩
    refine iteF ?_
    refine ⟨_, rfl, isi_str ⟨true, rfl, ?_⟩⟩
    refine iteF ?_
    refine ⟨_, rfl, _, rfl, (by show 2 ≤ sizeLine; decide), fun t ht => ?_⟩
    have s1 : Same H (upd H t (.tup [.str (S [a.k]), .str (S a.n)])) := same_upd ht
    refine ⟨_, rfl, p, C, dx, _, _, rfl, s1 _ _ h1, L.cl, L.nK, flds_kept _ _, d, _, rfl, DGet.t (k := keyK a) (s1 _ _ h2) upd_same, ?_⟩
    have ev : valV (es.map ent) (keyK a) = some (.ref e.2) := by
      rw [← keyK_of ea]
      exact val_some nd he
    rw [ev]
    refine ⟨false, rfl, ?_⟩
    refine iteF ?_
    exact k _ s1
end
end Cf
namespace Cf
open PySem L2
/-- the list at l is none of the folio's own -/
def NoEnt (H : Hp) (d l : Addr) : Prop := ∀ kvs, H d = some (.dT kvs) → ∀ kv ∈ kvs, kv.2 ≠ V.ref l
theorem FolAt.put {C : Addr} {H : Hp} {p d l : Addr} {ps : List Pt} {xs ys : List V} (h : FolAt C H p d ps) (n : NoEnt H d l) (hl : H l = some (.lst xs)) : FolAt C (upd H l (.lst ys)) p d ps := by
  obtain ⟨dx, es, e, h1, h2, h3⟩ := h.ex
  refine ⟨dx, es, e, (upd_ne (ne_of h1 hl (by intro z; cases z))).trans h1, (upd_ne (ne_of h2 hl (by intro z; cases z))).trans h2, fun x hx => ?_⟩
  have : x.2 ≠ l := fun z => n _ h2 (ent x) (List.mem_map.mpr ⟨x, hx, rfl⟩) (congrArg V.ref z)
  exact (upd_ne this).trans (h3 x hx)
section
variable {P : Program} {w : World} {K : PySem.W.Frag} {mg : Str → Option Value} {base : Heap} {C : Addr}

/-! ### put_part -/
abbrev m2 : Stmt := inClass (top 34) 2
theorem scm2 : FnScope ["self", "part", "kind", "name", "numbers", "more"] ["self", "part"] (defScope m2) := ⟨rfl, rfl, rfl, by decide +kernel, rfl, by decide +kernel, by decide +kernel⟩
def spPut (C : Addr) : Sp := fun vs H Q _ => ∃ (p d t r : Addr) (ps : List Pt) (a : Pt), vs = [.ref p, .ref t] ∧ FolAt C H p d ps ∧ PartT H t a r ∧ Good a ∧ Cf.key a ∉ ps.map Cf.key ∧ size ps + ((partNums a).length : Int) ≤ 3900 ∧ ps.length ≤ 1000 ∧
  ∀ H', Keep p d H H' → FolAt C H' p d (ps ++ [a]) → (∀ l o, H l = some o → NoEnt H d l → NoEnt H' d l) → Q .non H'
theorem d_put (A : MAt K C "put_part" "Folio.put_part" m2 ["self", "part"]) (T : Txt mg) (L : Cl K mg C) (D1 : Def P w K mg base "need_part" ["part"] 3 spNeed) (D2 : Def P w K mg base "part_numbers" ["part"] 4 spPartNums) :
    MDef P w K mg base C "put_part" ["self", "part"] 5 (spPut C) := by
  obtain ⟨f, fd, F, M, b⟩ := A
  refine ⟨f, fd, ?_, M, b⟩
  refine F.ok scm2 (fun vs H Q E h => ?_) (fun cdv A outer s H vs Q E hr h => ?_)
  · obtain ⟨p, d, t, r, ps, a, rfl, _⟩ := h
    rfl
  · obtain ⟨p, d, t, r, ps, a, rfl, FA, hp, gd, hn, hz, hlen, k⟩ := h
    have hu := hu_of hr
    have hr1 : Room 3 _ := hr.mono (by decide)
    have xl := gd.len
    obtain ⟨dx, es, ee, h1, h2, h3⟩ := FA.ex
    subst ee
    refine ⟨_, pss_cons (ps_expr (pe_def D1 hr1 rfl (pa_cons (pv 1) pa_nil)))
      (pss_cons (ps_asg (pv 1) (pg_tup rfl (pgs_cons (pg_name (i := 2) scm2.nd rfl (.inl rfl)) (pgs_cons (pg_name (i := 3) scm2.nd rfl (.inl rfl)) (pgs_cons (pg_name (i := 4) scm2.nd rfl (.inl rfl)) pgs_nil)))))
      (pss_cons (ps_if (pt_cmp (pc_din hu (pe_tup (pa_cons (pv 2) (pa_cons (pv 3) pa_nil))) (pe_fld (pv 0) rfl))) pss_never pss_nil)
      (pss_cons (ps_set (i := 5) scm2.nd rfl (.inl rfl) (pe_callB call_len_seq (by rfl) T.len PySem.boot_len (pa_cons (pe_def D2 hr rfl (pa_cons (pv 1) pa_nil)) pa_nil)))
      (pss_cons (ps_if (pt_cmpR op_gt (pe_op op_add (pe_fld (pv 0) rfl) (pv 5)) (pe_gI T.MOST_SIGNS rfl) (nomark _)) pss_never pss_nil)
      (pss_cons (ps_dput hu (pe_fld (pv 0) rfl) (pe_tup (pa_cons (pv 2) (pa_cons (pv 3) pa_nil))) (pe_callTy call_list_of (by rfl) T.list PyProof.Rows.boot_list (pa_cons (pv 4) pa_nil)) rfl)
      (pss_one (ps_fldaug (pv 0) (pv 5) in_add))))))), ?_⟩
    refine ⟨_, rfl, t, r, a, rfl, hp, gd, fun H1 s1 => ?_⟩
    have hp1 := hp.same s1
    refine ⟨_, rfl, t, _, rfl, SqT.of hp1.1, rfl, _, _, rfl, _, _, rfl, _, _, rfl, rfl, ?_⟩
    -- if (kind, name) in self.kept
    refine ⟨_, rfl, _, rfl, (by show 2 ≤ sizeLine; decide), fun u hu1 => ?_⟩
    have s2 : Same H1 (upd H1 u (.tup [.str (S [a.k]), .str (S a.n)])) := same_upd hu1
    have s12 := s1.trans s2
    refine ⟨_, rfl, p, C, dx, _, _, rfl, s12 _ _ h1, L.cl, L.nK, flds_kept _ _, d, _, rfl, DGet.t (k := keyK a) (s12 _ _ h2) upd_same, ?_⟩
    have ev : valV (es.map ent) (keyK a) = none := val_none hn
    rw [ev]
    refine ⟨false, rfl, ?_⟩
    refine iteF ?_
    -- more
    refine ⟨_, rfl, t, r, a, rfl, hp1.same s2, gd, fun H3 l s3 hl el => ?_⟩
    have s13 := s12.trans s3
    refine ⟨l, _, rfl, .inl (SqL.of el), ?_⟩
    rw [List.length_map]
    refine ⟨_, rfl, p, C, dx, _, _, rfl, s13 _ _ h1, L.cl, L.nS, flds_size _ _, _, rfl, _, _, rfl, rfl, _, _, rfl, rfl, false, congrArg V.bl (decide_eq_false (by omega)), ?_⟩
    refine iteF ?_
    -- self.kept[kind, name] = list(numbers)
    refine ⟨_, rfl, r, _, rfl, .inl (SqL.of (s13 _ _ hp.2)), fun c hc => ?_⟩
    have s4 : Same H3 (upd H3 c (.lst (a.xs.map V.int))) := same_upd hc
    have s14 := s13.trans s4
    refine ⟨_, rfl, p, C, dx, _, _, rfl, s14 _ _ h1, L.cl, L.nK, flds_kept _ _, _, rfl, _, rfl, (by show 2 ≤ sizeLine; decide), fun v hv => ?_⟩
    have s5 : Same (upd H3 c (.lst (a.xs.map V.int))) (upd (upd H3 c (.lst (a.xs.map V.int))) v (.tup [.str (S [a.k]), .str (S a.n)])) := same_upd hv
    have s15 := s14.trans s5
    have ncv : c ≠ v := ne_of_none upd_same hv
    have ec : (upd (upd H3 c (.lst (a.xs.map V.int))) v (.tup [.str (S [a.k]), .str (S a.n)])) c = some (.lst (a.xs.map V.int)) := (upd_ne ncv).trans upd_same
    have ev2 : (upd (upd H3 c (.lst (a.xs.map V.int))) v (.tup [.str (S [a.k]), .str (S a.n)])) v = some (.tup ((keyK a).map kV)) := upd_same
    generalize (upd (upd H3 c (.lst (a.xs.map V.int))) v (.tup [.str (S [a.k]), .str (S a.n)])) = H5 at *
    have hd5 := s15 _ _ h2
    have hp5 := s15 _ _ h1
    have npd : p ≠ d := ne_of h1 h2 (by intro z; cases z)
    have lk : (es.map ent).length ≤ 1000 := by rw [List.length_map]; rw [List.length_map] at hlen; exact hlen
    refine ⟨d, _, rfl, DPut.t (k := keyK a) hd5 ev2 (small1000 lk), ?_⟩
    rw [putK_new _ ev]
    -- self.size += more
    refine ⟨_, rfl, p, C, dx, _, _, rfl, (upd_ne npd).trans hp5, L.cl, L.nS, flds_size _ _, _, rfl, _, _, rfl, rfl, dx, _, (upd_ne npd).trans hp5, flds_len _ _, ?_⟩
    rw [flds_put, ← size_snoc]
    have hcH : H c = none := free_of s13 hc
    refine k _ (fun b o e hb hb2 => ?_) ⟨dx, es ++ [(a, c)], by rw [List.map_append]; rfl, upd_same, ?_, fun e he => ?_⟩ (fun x o ex nx kvs ek kv hkv => ?_)
    · rw [upd_ne hb, upd_ne hb2]
      exact s15 _ _ e
    · rw [upd_ne npd.symm, upd_same, List.map_append]
      rfl
    · rcases List.mem_append.mp he with he | he
      · have e1 := s15 _ _ (h3 e he)
        rw [upd_ne (ne_of e1 hp5 (by intro z; cases z)), upd_ne (ne_of e1 hd5 (by intro z; cases z))]
        exact e1
      · rw [List.mem_singleton] at he
        subst he
        rw [upd_ne (ne_of ec hp5 (by intro z; cases z)), upd_ne (ne_of ec hd5 (by intro z; cases z))]
        exact ec
    · rw [upd_ne npd.symm, upd_same] at ek
      cases ek
      rcases List.mem_append.mp hkv with hkv | hkv
      · exact nx _ h2 kv hkv
      · rw [List.mem_singleton] at hkv
        subst hkv
        exact fun z => ne_of_none ex hcH (V.ref.inj z).symm

/-! ### take_part -/
abbrev m3 : Stmt := inClass (top 34) 3
theorem scm3 : FnScope ["self", "kind", "name"] ["self", "kind", "name"] (defScope m3) := ⟨rfl, rfl, rfl, by decide +kernel, rfl, by decide +kernel, by decide +kernel⟩
def spTake (C : Addr) : Sp := fun vs H Q _ => ∃ (p d : Addr) (ps : List Pt) (i : Nat) (a : Pt), vs = [.ref p, .str (S [a.k]), .str (S a.n)] ∧ FolAt C H p d ps ∧ (ps.map Cf.key).Nodup ∧ ps[i]? = some a ∧ Good a ∧
  ∀ H', Keep p d H H' → FolAt C H' p d (ps.eraseIdx i) → (∀ l o, H l = some o → NoEnt H d l → NoEnt H' d l) → Q .non H'
theorem size_erase : ∀ {ps : List Pt} {i : Nat} {a : Pt}, ps[i]? = some a → size (ps.eraseIdx i) = size ps - ((partNums a).length : Int) := by
  intro ps i a h
  have h1 := flat_perm (erase_perm h)
  rw [flat_snoc, List.length_append] at h1
  unfold size
  omega
theorem d_take (A : MAt K C "take_part" "Folio.take_part" m3 ["self", "kind", "name"]) (T : Txt mg) (L : Cl K mg C) (D1 : MDef P w K mg base C "need_there" ["self", "kind", "name"] 1 (spThere C)) (D2 : Def P w K mg base "part_numbers" ["part"] 4 spPartNums) :
    MDef P w K mg base C "take_part" ["self", "kind", "name"] 5 (spTake C) := by
  obtain ⟨f, fd, F, M, b⟩ := A
  refine ⟨f, fd, ?_, M, b⟩
  refine F.ok scm3 (fun vs H Q E h => ?_) (fun cdv A outer s H vs Q E hr h => ?_)
  · obtain ⟨p, d, ps, i, a, rfl, _⟩ := h
    rfl
  · obtain ⟨p, d, ps, i, a, rfl, FA, nd, hi, gd, k⟩ := h
    have hu := hu_of hr
    have hr1 : Room 1 _ := hr.mono (by decide)
    obtain ⟨dx, es, ee, h1, h2, h3⟩ := FA.ex
    subst ee
    obtain ⟨e, he, ea⟩ := get_map hi
    subst ea
    have ev : valV (es.map ent) (keyK e.1) = some (.ref e.2) := val_some nd (get_mem he)
    refine ⟨_, pss_cons (ps_expr (pe_mdef D1 (pv 0) L.cl hr1 (pa_cons (pv 1) (pa_cons (pv 2) pa_nil))))
      (pss_cons (ps_fld (pv 0) (pe_op op_sub (pe_fld (pv 0) rfl) (pe_callB call_len_seq (by rfl) T.len PySem.boot_len (pa_cons (pe_def D2 hr rfl (pa_cons (pe_tup (pa_cons (pv 1) (pa_cons (pv 2) (pa_cons (pe_dget hu (pe_fld (pv 0) rfl) (pe_tup (pa_cons (pv 1) (pa_cons (pv 2) pa_nil))) (fun _ _ => rfl)) pa_nil)))) pa_nil)) pa_nil))) rfl)
      (pss_one (ps_expr (pe_bm PySem.F.plainAttrs_dict PySem.F.slot_dict_pop PySem.F.type_dict_pop (mt_popT1 hu) (pe_fld (pv 0) rfl) (pa_cons (pe_tup (pa_cons (pv 1) (pa_cons (pv 2) pa_nil))) pa_nil))))), ?_⟩
    refine ⟨_, rfl, p, dx, _, rfl, h1, flds_no _ _ (by decide +kernel) (by decide +kernel), _, rfl, _, rfl, p, d, _, e.1, rfl, FA, nd, List.mem_map.mpr ⟨e.1, get_mem hi, rfl⟩, fun H1 s1 => ?_⟩
    -- self.size = self.size - len(part_numbers(..))
    refine ⟨_, rfl, p, C, dx, _, _, rfl, s1 _ _ h1, L.cl, L.nS, flds_size _ _, _, rfl, _, rfl, _, rfl, p, C, dx, _, _, rfl, s1 _ _ h1, L.cl, L.nK, flds_kept _ _, _, rfl, _, rfl, (by show 2 ≤ sizeLine; decide), fun u hu1 => ?_⟩
    have s2 : Same H1 (upd H1 u (.tup [.str (S [e.1.k]), .str (S e.1.n)])) := same_upd hu1
    have s12 := s1.trans s2
    refine ⟨d, .ref e.2, rfl, ?_, ?_⟩
    · rw [← ev]
      exact DGet.t (k := keyK e.1) (s12 _ _ h2) upd_same
    refine ⟨(by show 3 ≤ sizeLine; decide), fun v hv => ?_⟩
    have s3 : Same (upd H1 u (.tup [.str (S [e.1.k]), .str (S e.1.n)])) (upd (upd H1 u (.tup [.str (S [e.1.k]), .str (S e.1.n)])) v (.tup (tupV e.1 e.2))) := same_upd hv
    have s13 := s12.trans s3
    refine ⟨v, e.2, e.1, rfl, ⟨upd_same, s13 _ _ (h3 e (get_mem he))⟩, gd, fun H4 l s4 hl el => ?_⟩
    have s14 := s13.trans s4
    refine ⟨l, _, rfl, .inl (SqL.of el), _, _, rfl, rfl, _, rfl, p, C, dx, _, rfl, s14 _ _ h1, L.cl, L.nS, flds_len _ _, ?_⟩
    rw [flds_put, List.length_map, ← size_erase hi]
    have npd : p ≠ d := ne_of h1 h2 (by intro z; cases z)
    have hd4 := s14 _ _ h2
    -- self.kept.pop(..)
    refine ⟨_, rfl, p, C, dx, _, _, rfl, upd_same, L.cl, L.nK, flds_kept _ _, .inr (.inr (.inl ⟨rfl, .inr ⟨_, (upd_ne npd.symm).trans hd4⟩⟩)), _, rfl, _, rfl, (by show 2 ≤ sizeLine; decide), fun z hz => ?_⟩
    have nzp : p ≠ z := ne_of_none upd_same hz
    have nzd : d ≠ z := ne_of_none ((upd_ne npd.symm).trans hd4) hz
    refine ⟨d, _, keyK e.1, z, .ref e.2, rfl, rfl, (upd_ne nzd).trans ((upd_ne npd.symm).trans hd4), upd_same, ev, ?_⟩
    rw [drop_ent nd he]
    have hzH : H4 z = none := by rw [← hz, upd_ne nzp.symm]
    refine k _ (fun b o eb hb hb2 => ?_) ⟨dx, es.eraseIdx i, erase_map _ _ _, ?_, upd_same, fun x hx => ?_⟩ (fun x o ex nx kvs ek kv hkv => ?_)
    · have e4 := s14 _ _ eb
      rw [upd_ne hb2, upd_ne (ne_of_none e4 hzH), upd_ne hb]
      exact e4
    · rw [upd_ne npd, upd_ne nzp, upd_same]
    · have hx' : x ∈ es := List.mem_of_mem_eraseIdx hx
      have e4 := s14 _ _ (h3 x hx')
      rw [upd_ne (ne_of e4 hd4 (by intro z; cases z)), upd_ne (ne_of_none e4 hzH), upd_ne (ne_of e4 (s14 _ _ h1) (by intro z; cases z))]
      exact e4
    · rw [upd_same] at ek
      cases ek
      obtain ⟨y, hy, rfl⟩ := List.mem_map.mp hkv
      exact nx _ h2 _ (List.mem_map.mpr ⟨y, List.mem_of_mem_eraseIdx hy, rfl⟩)

/-! ### numbers_of -/
abbrev m4 : Stmt := inClass (top 34) 4
theorem scm4 : FnScope ["self", "kind", "name"] ["self", "kind", "name"] (defScope m4) := ⟨rfl, rfl, rfl, by decide +kernel, rfl, by decide +kernel, by decide +kernel⟩
def spNumbersOf (C : Addr) : Sp := fun vs H Q _ => ∃ (p d : Addr) (ps : List Pt) (a : Pt), vs = [.ref p, .str (S [a.k]), .str (S a.n)] ∧ FolAt C H p d ps ∧ (ps.map Cf.key).Nodup ∧ a ∈ ps ∧
  ∀ H' l, Same H H' → H l = none → H' l = some (.lst (a.xs.map V.int)) → Q (.ref l) H'
theorem d_numbersOf (A : MAt K C "numbers_of" "Folio.numbers_of" m4 ["self", "kind", "name"]) (T : Txt mg) (L : Cl K mg C) (D1 : MDef P w K mg base C "need_there" ["self", "kind", "name"] 1 (spThere C)) :
    MDef P w K mg base C "numbers_of" ["self", "kind", "name"] 2 (spNumbersOf C) := by
  obtain ⟨f, fd, F, M, b⟩ := A
  refine ⟨f, fd, ?_, M, b⟩
  refine F.ok scm4 (fun vs H Q E h => ?_) (fun cdv A outer s H vs Q E hr h => ?_)
  · obtain ⟨p, d, ps, a, rfl, _⟩ := h
    rfl
  · obtain ⟨p, d, ps, a, rfl, FA, nd, ha, k⟩ := h
    have hu := hu_of hr
    obtain ⟨dx, es, ee, h1, h2, h3⟩ := FA.ex
    subst ee
    obtain ⟨e, he, rfl⟩ := List.mem_map.mp ha
    have ev : valV (es.map ent) (keyK e.1) = some (.ref e.2) := val_some nd he
    refine ⟨_, pss_cons (ps_expr (pe_mdef D1 (pv 0) L.cl hr (pa_cons (pv 1) (pa_cons (pv 2) pa_nil))))
      (pss_one (ps_ret (pe_callTy call_list_of (by rfl) T.list PyProof.Rows.boot_list (pa_cons (pe_dget hu (pe_fld (pv 0) rfl) (pe_tup (pa_cons (pv 1) (pa_cons (pv 2) pa_nil))) (fun _ _ => rfl)) pa_nil)))), ?_⟩
    refine ⟨_, rfl, p, dx, _, rfl, h1, flds_no _ _ (by decide +kernel) (by decide +kernel), _, rfl, _, rfl, p, d, _, e.1, rfl, FA, nd, List.mem_map.mpr ⟨e.1, ha, rfl⟩, fun H1 s1 => ?_⟩
    refine ⟨_, rfl, p, C, dx, _, _, rfl, s1 _ _ h1, L.cl, L.nK, flds_kept _ _, _, rfl, _, rfl, (by show 2 ≤ sizeLine; decide), fun u hu1 => ?_⟩
    have s2 : Same H1 (upd H1 u (.tup [.str (S [e.1.k]), .str (S e.1.n)])) := same_upd hu1
    have s12 := s1.trans s2
    refine ⟨d, .ref e.2, rfl, ?_, ?_⟩
    · rw [← ev]
      exact DGet.t (k := keyK e.1) (s12 _ _ h2) upd_same
    refine ⟨e.2, _, rfl, .inl (SqL.of (s12 _ _ (h3 e he))), fun l hl => ?_⟩
    exact k _ l (s12.trans (same_upd hl)) (free_of s12 hl) upd_same
end
end Cf
namespace Cf
open PySem L2
theorem unlock_same {H H' : Hp} {d : Addr} {od : Obj} {u : HO} (h : H d = some u) (s : Same (upd H d (.frz od u)) H') : Same H (upd H' d u) := fun b o e => by
  by_cases hb : b = d
  · subst hb
    rw [upd_same, ← h]
    exact e
  · rw [upd_ne hb]
    exact s b o ((upd_ne hb).trans e)
/-- lists of parts on the heap: the tuples, the lists of numbers -/
abbrev Trip := Pt × Addr × Addr
def PartsE (H : Hp) (a : Addr) (fs : List Trip) : Prop := H a = some (.lst (fs.map fun e => V.ref e.2.1)) ∧ ∀ e ∈ fs, PartT H e.2.1 e.1 e.2.2
def PartsAt (H : Hp) (a : Addr) (ps : List Pt) : Prop := ∃ fs : List Trip, fs.map (·.1) = ps ∧ PartsE H a fs
theorem PartsE.same {H H' : Hp} {a : Addr} {fs : List Trip} (h : PartsE H a fs) (s : Same H H') : PartsE H' a fs := ⟨s _ _ h.1, fun e he => (h.2 e he).same s⟩
theorem PartsAt.same {H H' : Hp} {a : Addr} {ps : List Pt} (h : PartsAt H a ps) (s : Same H H') : PartsAt H' a ps := by
  obtain ⟨fs, e, h⟩ := h
  exact ⟨fs, e, h.same s⟩
def rListOf (K : PySem.W.Frag) : List V → Hp → VK → Prop := fun xs H Q => ∃ p ys, xs = [.ref p] ∧ (SqL K H p ys ∨ SqT K H p ys) ∧ ∀ l, H l = none → Q (.ref l) (upd H l (.lst ys))
theorem c_list {X : Cx} : CallR X (.type "list") (rListOf X.K) := call_list_of
section
variable {P : Program} {w : World} {K : PySem.W.Frag} {mg : Str → Option Value} {base : Heap} {C : Addr}

/-! ### names_of -/
abbrev m5 : Stmt := inClass (top 34) 5
theorem scm5 : FnScope ["self", "kind", "other", "name"] ["self", "kind"] (defScope m5) := ⟨rfl, rfl, rfl, by decide +kernel, rfl, by decide +kernel, by decide +kernel⟩
def namesV (ps : List Pt) (c : Nat) : List V := (ps.filter fun q => decide (q.k = c)).map fun q => V.str (S q.n)
theorem namesV_take {ps : List Pt} {i : Nat} {a : Pt} {c : Nat} (h : ps[i]? = some a) : namesV (ps.take (i + 1)) c = if a.k = c then namesV (ps.take i) c ++ [.str (S a.n)] else namesV (ps.take i) c := by
  unfold namesV
  rw [List.take_add_one, h, List.filter_append, List.map_append]
  show _ ++ (([a] : List Pt).filter _).map _ = _
  rw [List.filter_cons, List.filter_nil]
  by_cases e : a.k = c
  · rw [if_pos e, if_pos (decide_eq_true e)]
    rfl
  · rw [if_neg e, if_neg (by rw [decide_eq_false e]; exact Bool.false_ne_true)]
    exact List.append_nil _
theorem namesV_len (ps : List Pt) (c : Nat) : (namesV ps c).length ≤ ps.length := by
  unfold namesV
  rw [List.length_map]
  exact List.length_filter_le _ _
def spNames (C : Addr) : Sp := fun vs H Q _ => ∃ (p d : Addr) (ps : List Pt) (c : Nat), vs = [.ref p, .str (S [c])] ∧ FolAt C H p d ps ∧ ps.length ≤ 1000 ∧
  ∀ H' l, Same H H' → H l = none → H' l = some (.lst (namesV ps c)) → Q (.ref l) H'
theorem d_names (A : MAt K C "names_of" "Folio.names_of" m5 ["self", "kind"]) (L : Cl K mg C) : MDef P w K mg base C "names_of" ["self", "kind"] 1 (spNames C) := by
  obtain ⟨f, fd, F, M, b⟩ := A
  refine ⟨f, fd, ?_, M, b⟩
  refine F.ok scm5 (fun vs H Q E h => ?_) (fun cdv A outer s H vs Q E hr h => ?_)
  · obtain ⟨p, d, ps, c, rfl, _⟩ := h
    rfl
  · obtain ⟨p, d, ps, c, rfl, FA, hlen, k⟩ := h
    obtain ⟨dx, es, ee, h1, h2, h3⟩ := FA.ex
    subst ee
    rw [List.length_map] at hlen
    have npd : p ≠ d := ne_of h1 h2 (by intro z; cases z)
    refine ⟨_, pss_one (ps_ret (pe_lock (pe_lc (own := [("other", 2), ("name", 3)]) (g := gTup K 2 (gCons (gName 2) (gCons (gName 3) gNil))) rfl scm5.nd (pi_keys (pe_fld (pv 0) rfl)) (blkOk_by (N := ["self", "kind", "other", "name"]) (sc := defScope m5) (by decide +kernel))
      (fun _ _ _ _ _ => pg_tup rfl (pgs_cons (pg_name (i := 2) scm5.nd rfl (Or.inl rfl)) (pgs_cons (pg_name (i := 3) scm5.nd rfl (Or.inl rfl)) pgs_nil))) (fun _ _ _ _ _ => pts_one (pt_cmpR op_eq (pv 2) (pv 1) (nomark _))) (fun _ _ _ _ _ => pv 3)))), ?_⟩
    refine ⟨d, _, h2, trivial, fun od => ?_⟩
    refine ⟨_, rfl, p, C, dx, _, _, rfl, (upd_ne npd).trans h1, L.cl, L.nK, flds_kept _ _, d, od, rfl, .inr ⟨_, upd_same, ?_⟩⟩
    have hd1 : upd H d (.frz od (.dT (es.map ent))) d = some (.frz od (.dT (es.map ent))) := upd_same
    have un : ∀ H', Same (upd H d (.frz od (.dT (es.map ent)))) H' → Same H (upd H' d (.dT (es.map ent))) := fun H' s => unlock_same h2 s
    have fr : ∀ x, upd H d (.frz od (.dT (es.map ent))) x = none → x ≠ d ∧ H x = none := fun x hx => by
      have hxd : x ≠ d := fun e => by rw [e, hd1] at hx; cases hx
      exact ⟨hxd, (upd_ne hxd).symm.trans hx⟩
    generalize upd H d (.frz od (.dT (es.map ent))) = H1 at *
    refine fun Dl hD => ?_
    refine lc_turns es.length (fun i H2 => Same H1 H2 ∧ H2 Dl = some (.lst (namesV ((es.map (·.1)).take i) c))) ⟨same_upd hD, upd_same⟩ (fun i H2 hi hp => ⟨hp.1 _ _ hd1, by rw [List.length_map]; exact hi⟩) (fun H2 hp => ⟨hp.1 _ _ hd1, by rw [List.length_map]; exact Nat.le_refl _⟩) (fun i x H2 H3 hi hp hy => ?_) (fun H2 hp => ?_)
    · obtain ⟨rfl, kk, v, q, hk, rfl, hq⟩ := hy
      obtain ⟨e, he, ek⟩ := get_map hk
      cases ek
      refine ⟨q, _, rfl, SqT.of hq, rfl, _, _, rfl, _, _, rfl, rfl, rfl, ?_⟩
      refine ⟨_, rfl, _, rfl, rfl, _, rfl, ?_⟩
      have ht : namesV ((es.map (·.1)).take (i + 1)) c = _ := namesV_take (c := c) (map_get (f := (·.1)) he)
      refine ite2 (fun ek => ?_) (fun ek => ?_)
      · have ek' : e.1.k = c := by
          have := of_decide_eq_true ek
          injection this with this
          have := S_inj this
          injection this
        rw [if_pos ek'] at ht
        refine ⟨_, rfl, _, hp.2, ?_, put_same hp.1 hD, ?_⟩
        · refine small1000 (Nat.le_trans (namesV_len _ _) ?_)
          rw [List.length_take, List.length_map]
          exact Nat.le_trans (Nat.min_le_right _ _) hlen
        · rw [upd_same, ht]
          rfl
      · have ek' : ¬ e.1.k = c := fun z => ek (by rw [z]; exact decide_eq_true rfl)
        rw [if_neg ek'] at ht
        exact ⟨hp.1, by rw [ht]; exact hp.2⟩
    · have e2 := hp.2
      rw [show es.length = (es.map (·.1)).length from (List.length_map ..).symm, List.take_length] at e2
      have nD := fr Dl hD
      exact ⟨hp.1 _ _ hd1, k _ Dl (un _ hp.1) nD.2 ((upd_ne nD.1).trans e2)⟩

/-! ### all_parts -/
abbrev m6 : Stmt := inClass (top 34) 6
theorem scm6 : FnScope ["self", "kind", "name"] ["self"] (defScope m6) := ⟨rfl, rfl, rfl, by decide +kernel, rfl, by decide +kernel, by decide +kernel⟩
def spAll (C : Addr) : Sp := fun vs H Q _ => ∃ (p d : Addr) (ps : List Pt), vs = [.ref p] ∧ FolAt C H p d ps ∧ (ps.map Cf.key).Nodup ∧ ps.length ≤ 1000 ∧
  ∀ H' l (fs : List Trip), Same H H' → H l = none → fs.map (·.1) = ps → PartsE H' l fs → (fs.map (·.2.2)).Nodup → (∀ e ∈ fs, H e.2.2 = none) → Q (.ref l) H'
theorem d_all (A : MAt K C "all_parts" "Folio.all_parts" m6 ["self"]) (T : Txt mg) (L : Cl K mg C) : MDef P w K mg base C "all_parts" ["self"] 1 (spAll C) := by
  obtain ⟨f, fd, F, M, b⟩ := A
  refine ⟨f, fd, ?_, M, b⟩
  refine F.ok scm6 (fun vs H Q E h => ?_) (fun cdv A outer s H vs Q E hr h => ?_)
  · obtain ⟨p, d, ps, rfl, _⟩ := h
    rfl
  · obtain ⟨p, d, ps, rfl, FA, nd, hlen, k⟩ := h
    have hu := hu_of hr
    obtain ⟨dx, es, ee, h1, h2, h3⟩ := FA.ex
    subst ee
    rw [List.length_map] at hlen
    have npd : p ≠ d := ne_of h1 h2 (by intro z; cases z)
    refine ⟨_, pss_one (ps_ret (pe_lock (pe_lc (own := [("kind", 1), ("name", 2)]) (g := gTup K 2 (gCons (gName 1) (gCons (gName 2) gNil)))
      (te := tTup (tCons (tVar 1) (tCons (tVar 2) (tCons (tCB (rListOf K) (tCons (tDGet (tFld K (tVar 0) "kept") (tTup (tCons (tVar 1) (tCons (tVar 2) tNil)))) tNil)) tNil)))) rfl scm6.nd (pi_keys (pe_fld (pv 0) rfl)) (blkOk_by (N := ["self", "kind", "name"]) (sc := defScope m6) (by decide +kernel))
      (fun _ _ _ _ _ => pg_tup rfl (pgs_cons (pg_name (i := 1) scm6.nd rfl (Or.inl rfl)) (pgs_cons (pg_name (i := 2) scm6.nd rfl (Or.inl rfl)) pgs_nil))) (fun _ _ _ _ _ => pts_nil)
      (fun _ _ _ _ _ => pe_tup (pa_cons (pv 1) (pa_cons (pv 2) (pa_cons (pe_callTy c_list (by rfl) T.list PyProof.Rows.boot_list (pa_cons (pe_dget hu (pe_fld (pv 0) rfl) (pe_tup (pa_cons (pv 1) (pa_cons (pv 2) pa_nil))) (fun _ _ => rfl)) pa_nil)) pa_nil))))))), ?_⟩
    refine ⟨d, _, h2, trivial, fun od => ?_⟩
    have hp1 : upd H d (.frz od (.dT (es.map ent))) p = some (.ins C dx (flds d (size (es.map (·.1))))) := (upd_ne npd).trans h1
    refine ⟨_, rfl, p, C, dx, _, _, rfl, hp1, L.cl, L.nK, flds_kept _ _, d, od, rfl, .inr ⟨_, upd_same, ?_⟩⟩
    have hd1 : upd H d (.frz od (.dT (es.map ent))) d = some (.frz od (.dT (es.map ent))) := upd_same
    have un : ∀ H', Same (upd H d (.frz od (.dT (es.map ent)))) H' → Same H (upd H' d (.dT (es.map ent))) := fun H' s => unlock_same h2 s
    have fr : ∀ x, upd H d (.frz od (.dT (es.map ent))) x = none → x ≠ d ∧ H x = none := fun x hx => by
      have hxd : x ≠ d := fun e => by rw [e, hd1] at hx; cases hx
      exact ⟨hxd, (upd_ne hxd).symm.trans hx⟩
    have h31 : ∀ e ∈ es, upd H d (.frz od (.dT (es.map ent))) e.2 = some (.lst (e.1.xs.map V.int)) := fun e he => (upd_ne (ne_of (h3 e he) h2 (by intro z; cases z))).trans (h3 e he)
    generalize upd H d (.frz od (.dT (es.map ent))) = H1 at *
    refine fun Dl hD => ?_
    refine lc_turns es.length (fun i H2 => Same H1 H2 ∧ ∃ fs : List Trip, fs.map (·.1) = (es.map (·.1)).take i ∧ PartsE H2 Dl fs ∧ (fs.map (·.2.2)).Nodup ∧ ∀ e ∈ fs, H1 e.2.2 = none ∧ e.2.2 ≠ Dl)
      ⟨same_upd hD, [], rfl, ⟨upd_same, fun e he => nomatch he⟩, List.nodup_nil, fun e he => nomatch he⟩ (fun i H2 hi hp => ⟨hp.1 _ _ hd1, by rw [List.length_map]; exact hi⟩) (fun H2 hp => ⟨hp.1 _ _ hd1, by rw [List.length_map]; exact Nat.le_refl _⟩) (fun i x H2 H3 hi hp hy => ?_) (fun H2 hp => ?_)
    · obtain ⟨rfl, kk, v, q, hk, rfl, hq⟩ := hy
      obtain ⟨e, he, ek⟩ := get_map hk
      cases ek
      obtain ⟨s2, fs, ef, pf, nf, ff⟩ := hp
      refine ⟨q, _, rfl, SqT.of hq, rfl, _, _, rfl, _, _, rfl, rfl, rfl, ?_⟩
      unfold tYes
      refine iteT ?_
      refine ⟨_, rfl, _, rfl, _, rfl, p, C, dx, _, _, rfl, s2 _ _ hp1, L.cl, L.nK, flds_kept _ _, _, rfl, _, rfl, (by show 2 ≤ sizeLine; decide), fun u hu1 => ?_⟩
      have s3 : Same H3 (upd H3 u (.tup [.str (S [e.1.k]), .str (S e.1.n)])) := same_upd hu1
      have s13 := s2.trans s3
      have ev : valV (es.map ent) (keyK e.1) = some (.ref e.2) := val_some nd (get_mem he)
      refine ⟨d, .ref e.2, rfl, .inr ⟨_, keyK e.1, u, .inr ⟨od, s13 _ _ hd1⟩, rfl, upd_same, ev.symm⟩, ?_⟩
      have eL := s13 _ _ (h31 e (get_mem he))
      refine ⟨e.2, _, rfl, .inl (SqL.of eL), fun r hr2 => ⟨(by show 3 ≤ sizeLine; decide), fun t ht => ?_⟩⟩
      have s4 := s3.trans (same_upd (o := .lst (e.1.xs.map V.int)) hr2)
      have s5 := s4.trans (same_upd (o := .tup (tupV e.1 r)) ht)
      have hr0 : H3 r = none := free_of s3 hr2
      have ntr : r ≠ t := ne_of_none upd_same ht
      have pt : PartT (upd (upd (upd H3 u (.tup [.str (S [e.1.k]), .str (S e.1.n)])) r (.lst (e.1.xs.map V.int))) t (.tup (tupV e.1 r))) t e.1 r := ⟨upd_same, (upd_ne ntr).trans upd_same⟩
      have hl : fs.length ≤ 1000 := by
        have := congrArg List.length ef
        rw [List.length_map, List.length_take, List.length_map] at this
        omega
      have nrD : r ≠ Dl := fun z => by rw [z, pf.1] at hr0; cases hr0
      refine ⟨_, s5 _ _ pf.1, by rw [List.length_map]; exact small1000 hl, put_same (s2.trans s5) hD, fs ++ [(e.1, t, r)], ?_, ⟨?_, fun x hx => ?_⟩, ?_, fun x hx => ?_⟩
      · rw [List.map_append, ef, List.take_add_one, map_get (f := (·.1)) he]
        rfl
      · rw [upd_same, List.map_append]
        rfl
      · rcases List.mem_append.mp hx with hx | hx
        · have p5 := (pf.2 x hx).same s5
          exact ⟨(upd_ne (ne_of p5.1 (s5 _ _ pf.1) (by intro z; cases z))).trans p5.1, (upd_ne (ff x hx).2).trans p5.2⟩
        · rw [List.mem_singleton] at hx
          subst hx
          exact ⟨(upd_ne (ne_of pt.1 (s5 _ _ pf.1) (by intro z; cases z))).trans pt.1, (upd_ne nrD).trans pt.2⟩
      · rw [List.map_append]
        refine nodup_snoc nf fun hm => ?_
        obtain ⟨x, hx, ex⟩ := List.mem_map.mp hm
        have := (pf.2 x hx).2
        rw [show x.2.2 = r from ex, hr0] at this
        cases this
      · rcases List.mem_append.mp hx with hx | hx
        · exact ff x hx
        · rw [List.mem_singleton] at hx
          subst hx
          exact ⟨free_of s2 hr0, nrD⟩
    · obtain ⟨s2, fs, ef, pf, nf, ff⟩ := hp
      rw [show es.length = (es.map (·.1)).length from (List.length_map ..).symm, List.take_length] at ef
      have nD := fr Dl hD
      refine ⟨s2 _ _ hd1, k _ Dl fs (un _ s2) nD.2 ef ⟨(upd_ne nD.1).trans pf.1, fun x hx => ?_⟩ nf fun x hx => (fr _ (ff x hx).1).2⟩
      have hd2 := s2 _ _ hd1
      have px := pf.2 x hx
      exact ⟨(upd_ne (ne_of px.1 hd2 (by intro z; cases z))).trans px.1, (upd_ne (ne_of px.2 hd2 (by intro z; cases z))).trans px.2⟩
end
end Cf
namespace Cf
open PySem L2
/-- the numbers of the head and of the first i parts -/
def upto (ps : List Pt) (i : Nat) : List Int := 38 :: 41 :: 1 :: (two (ps.length : Int) ++ flat (ps.take i))
theorem upto_all (ps : List Pt) : upto ps ps.length = nums ps := by unfold upto nums; rw [List.take_length]
theorem upto_succ {ps : List Pt} {i : Nat} {a : Pt} (h : ps[i]? = some a) : upto ps (i + 1) = upto ps i ++ partNums a := by
  unfold upto
  rw [flat_take h]
  simp
theorem upto_split {ps : List Pt} {i : Nat} {a : Pt} (h : ps[i]? = some a) : nums ps = upto ps i ++ (partNums a ++ flat (ps.drop (i + 1))) := by
  rw [← List.append_assoc, ← upto_succ h]
  unfold upto nums
  have e : flat ps = flat (ps.take (i + 1)) ++ flat (ps.drop (i + 1)) := by rw [← flat_app, List.take_append_drop]
  rw [e]
  simp
theorem upto_len (ps : List Pt) (i : Nat) : (upto ps i).length = 5 + (flat (ps.take i)).length := by
  unfold upto two
  simp only [List.length_cons, List.length_append, List.length_nil]
  omega
theorem flat_take_le (ps : List Pt) (i : Nat) : (flat (ps.take i)).length ≤ (flat ps).length := by
  have e : flat ps = flat (ps.take i) ++ flat (ps.drop i) := by rw [← flat_app, List.take_append_drop]
  rw [e, List.length_append]
  omega
theorem head_nums : [67, 70, 49].map num = [38, 41, 1] := by decide +kernel
theorem head_mem : ∀ c ∈ [67, 70, 49], c ∈ sigs := by decide +kernel
section
variable {P : Program} {w : World} {K : PySem.W.Frag} {mg : Str → Option Value} {base : Heap} {C : Addr}

/-! ### written -/
abbrev m7 : Stmt := inClass (top 34) 7
theorem scm7 : FnScope ["self", "numbers", "part"] ["self"] (defScope m7) := ⟨rfl, rfl, rfl, by decide +kernel, rfl, by decide +kernel, by decide +kernel⟩
def spWritten (C : Addr) : Sp := fun vs H Q _ => ∃ (p d : Addr) (ps : List Pt), vs = [.ref p] ∧ FolAt C H p d ps ∧ OK ps ∧ ∀ H', Same H H' → Q (.str (S (text ps))) H'
theorem d_written (A : MAt K C "written" "Folio.written" m7 ["self"]) (T : Txt mg) (L : Cl K mg C) (D1 : Def P w K mg base "numbers_of_text" ["text"] 2 spNumsText) (D2 : Def P w K mg base "two_numbers" ["number"] 1 spTwo) (D3 : MDef P w K mg base C "all_parts" ["self"] 1 (spAll C))
    (D4 : Def P w K mg base "part_numbers" ["part"] 4 spPartNums) (D5 : Def P w K mg base "check_of" ["numbers"] 1 (spCheck K)) (D6 : Def P w K mg base "signs_text" ["numbers"] 2 (spSignsText K)) :
    MDef P w K mg base C "written" ["self"] 5 (spWritten C) := by
  obtain ⟨f, fd, F, M, b⟩ := A
  refine ⟨f, fd, ?_, M, b⟩
  refine F.ok scm7 (fun vs H Q E h => ?_) (fun cdv A outer s H vs Q E hr h => ?_)
  · obtain ⟨p, d, ps, rfl, _⟩ := h
    rfl
  · obtain ⟨p, d, ps, rfl, FA, ok, k⟩ := h
    have hr1 : Room 1 _ := hr.mono (by decide)
    have hr2 : Room 2 _ := hr.mono (by decide)
    have hl1 := ok.len
    have hl2 := ok.flat
    refine ⟨_, pss_cons (ps_set (i := 1) scm7.nd rfl (.inl rfl) (pe_op op_cat (pe_def D1 hr2 rfl (pa_cons (pe_gS T.HEAD rfl) pa_nil))
        (pe_callTy call_list_of (by rfl) T.list PyProof.Rows.boot_list (pa_cons (pe_def D2 hr1 rfl (pa_cons (pe_callB call_len_dT (by rfl) T.len PySem.boot_len (pa_cons (pe_fld (pv 0) rfl) pa_nil)) pa_nil)) pa_nil))))
      (pss_cons (ps_for PassesOwn.never rfl (pi_list (pe_mdef0 D3 (pv 0) L.cl hr1)) (pg_name (i := 2) scm7.nd rfl (.inl rfl))
        (pss_one (ps_aug (i := 1) scm7.nd rfl (.inl rfl) (pe_def D4 hr rfl (pa_cons (pv 2) pa_nil)) iop_ext)))
      (pss_one (ps_ret (pe_def D6 hr2 rfl (pa_cons (pe_op op_cat (pv 1) (pe_callTy call_list_of (by rfl) T.list PyProof.Rows.boot_list (pa_cons (pe_def D2 hr1 rfl (pa_cons (pe_def D5 hr1 rfl (pa_cons (pv 1) pa_nil)) pa_nil)) pa_nil))) pa_nil))))), ?_⟩
    refine ⟨[67, 70, 49], rfl, head_mem, by decide, fun H1 n1 s1 hn1 e1 => ?_⟩
    obtain ⟨dx, es, ee, h1, h2, h3⟩ := id FA.ex
    refine ⟨_, rfl, p, C, dx, _, _, rfl, s1 _ _ h1, L.cl, L.nK, flds_kept _ _, d, _, rfl, s1 _ _ h2, ?_⟩
    have el : (((es.map ent).length : Nat) : Int) = (ps.length : Int) := by rw [← ee, List.length_map, List.length_map]
    rw [el]
    refine ⟨_, rfl, by omega, fun q hq => ⟨q, _, rfl, .inr (SqT.of upd_same), fun u hu => ?_⟩⟩
    have nu1 : n1 ≠ u := ne_of_none (same_upd hq _ _ e1) hu
    refine ⟨n1, u, _, _, rfl, rfl, (upd_ne nu1).trans (same_upd hq _ _ e1), upd_same, by rw [head_nums]; show 3 + 2 ≤ sizeLine; decide, fun z hz => ?_⟩
    have sz := ((s1.trans (same_upd (o := .tup ((two (ps.length : Int)).map V.int)) hq)).trans (same_upd (o := .lst ((two (ps.length : Int)).map V.int)) hu)).trans (same_upd (o := .lst (([67, 70, 49].map num).map V.int ++ (two (ps.length : Int)).map V.int)) hz)
    have hz0 : H z = none := free_of ((s1.trans (same_upd (o := .tup ((two (ps.length : Int)).map V.int)) hq)).trans (same_upd (o := .lst ((two (ps.length : Int)).map V.int)) hu)) hz
    have ez : upd (upd (upd H1 q (.tup ((two (ps.length : Int)).map V.int))) u (.lst ((two (ps.length : Int)).map V.int))) z (.lst (([67, 70, 49].map num).map V.int ++ (two (ps.length : Int)).map V.int)) z = some (.lst ((upto ps 0).map V.int)) := by
      rw [upd_same, head_nums]
      rfl
    -- for part in self.all_parts()
    have FA2 := FA.same sz
    refine ⟨_, rfl, p, dx, _, rfl, sz _ _ h1, flds_no _ _ (by decide +kernel) (by decide +kernel), p, d, ps, rfl, FA2, ok.nd, by omega, fun H2 l fs s2 hl ef pf nf ff => ?_⟩
    have ez2 := s2 _ _ ez
    have s02 := sz.trans s2
    have nlz : l ≠ z := fun e => by rw [e, ez] at hl; cases hl
    have fl : fs.length = ps.length := by rw [← ef, List.length_map]
    have ffz : ∀ e ∈ fs, e.2.2 ≠ z := fun e he q => by
      have := ff e he
      rw [q, ez] at this
      cases this
    refine ⟨l, rfl, ⟨_, SqL.of pf.1⟩, for_list (K := K) (a := l) (xs := fs.map fun e => V.ref e.2.1) (fun i σ H' => ∃ v, σ = [some (.ref p), some (.ref z), v] ∧ (∀ b o, b ≠ z → H2 b = some o → H' b = some o) ∧ H' z = some (.lst ((upto ps i).map V.int)))
      ⟨none, rfl, fun b o _ e => e, ez2⟩ (fun i σ H' _ hp => by obtain ⟨v, _, kp, _⟩ := hp; exact SqL.of (kp _ _ nlz pf.1)) (fun i x σ H' hx hp => ?_) (fun σ H' hp => ?_)⟩
    · obtain ⟨v, rfl, kp, e'⟩ := hp
      obtain ⟨e, he, rfl⟩ := get_map hx
      have pe := pf.2 e (get_mem he)
      have hpi : ps[i]? = some e.1 := by rw [← ef]; exact map_get (f := (·.1)) he
      have ge := ok.good _ (get_mem hpi)
      have pt : PartT H' e.2.1 e.1 e.2.2 := ⟨kp _ _ (ne_of pe.1 ez2 (by intro q; cases q)) pe.1, kp _ _ (ffz e (get_mem he)) pe.2⟩
      refine ⟨_, rfl, _, rfl, e.2.1, e.2.2, e.1, rfl, pt, ge, fun H3 m s3 hm em => ?_⟩
      have f1 := flat_take_le ps (i + 1)
      rw [flat_take hpi, List.length_append] at f1
      refine ⟨z, m, _, _, rfl, rfl, s3 _ _ e', em, ?_, some (.ref e.2.1), rfl, fun b o hb eb => (upd_ne hb).trans (s3 _ _ (kp _ _ hb eb)), ?_⟩
      · rw [List.length_map, List.length_map, upto_len]
        exact five' (by omega)
      · rw [upd_same, upto_succ hpi, List.map_append]
    · obtain ⟨v, rfl, kp, e'⟩ := hp
      rw [List.length_map, fl, upto_all] at e'
      have s0 : Same H H' := fun b o eb => kp _ _ (ne_of_none eb hz0) (s02 _ _ eb)
      have six := nums_six ok.good (by omega)
      have nl := nums_len ps
      refine ⟨_, rfl, _, rfl, z, nums ps, rfl, SqL.of e', six, by omega, fun H3 s3 => ?_⟩
      have c1 := chk_nn (nums ps)
      have c2 := chk_lt (nums ps)
      refine ⟨_, rfl, c1, fun q hq => ⟨q, _, rfl, .inr (SqT.of upd_same), fun u hu => ?_⟩⟩
      have e3 := s3 _ _ e'
      have nzu : z ≠ u := ne_of_none (same_upd hq _ _ e3) hu
      refine ⟨z, u, _, _, rfl, rfl, (upd_ne nzu).trans (same_upd hq _ _ e3), upd_same, ?_, fun y hy => ?_⟩
      · rw [List.length_map, List.length_map]
        exact five' (by show _ + 2 ≤ 5000; omega)
      refine ⟨y, whole ps, rfl, SqL.of ?_, whole_six ok.good (by omega), by rw [whole_len]; omega, fun H5 s5 => ?_⟩
      · rw [upd_same]
        unfold whole
        rw [List.map_append]
      · exact k _ ((((s0.trans s3).trans (same_upd hq)).trans (same_upd hu)).trans ((same_upd hy).trans s5))
end
end Cf
namespace Cf
open PySem L2
theorem at_m1 {α : Type} (l : List α) (a b : α) : atI (l ++ [a, b]) (-1) = some b := by
  have := atI_last (l ++ [a]) b
  rw [List.append_assoc] at this
  exact this
theorem at_m2 {α : Type} (l : List α) (a b : α) : atI (l ++ [a, b]) (-2) = some a := by
  unfold atI ixN
  have e : (l ++ [a, b]).length = l.length + 2 := by rw [List.length_append]; rfl
  rw [e, if_neg (by decide), if_pos (by omega)]
  show (l ++ [a, b])[(-2 + ((l.length + 2 : Nat) : Int)).toNat]? = some a
  rw [show (-2 + ((l.length + 2 : Nat) : Int)).toNat = l.length by omega]
  exact get_mid l a [b]
theorem cut_m2 (l : List V) (a b : V) : cutV (l ++ [a, b]) none (some (-2)) = l := by
  unfold cutV
  rw [HT.sIx_none]
  have e : (l ++ [a, b]).length = l.length + 2 := by rw [List.length_append]; rfl
  rw [e]
  show (l ++ [a, b]).take (HT.sIx (l.length + 2) (l.length + 2) (some (-2)) - 0) = l
  have e2 : HT.sIx (l.length + 2) (l.length + 2) (some (-2)) = l.length := by
    unfold HT.sIx
    show (if (-2 : Int) < 0 then (-2 + ((l.length + 2 : Nat) : Int)).toNat else _) = _
    rw [if_pos (by decide)]
    omega
  rw [e2, Nat.sub_zero, List.take_left]
theorem cutS_3 {l : List Nat} (h : 3 ≤ l.length) : cutS (S l) none (some 3) = S (l.take 3) := by
  unfold cutS
  rw [HT.sIx_none, S_len]
  have e : HT.sIx l.length l.length (some 3) = 3 := by
    have := HT.sIx_nat l.length l.length 3
    rw [show ((3 : Nat) : Int) = 3 from rfl] at this
    rw [this]
    omega
  rw [e]
  rfl
theorem keep_same {H0 H H' : Hp} {p d : Addr} (k : Keep p d H H') (s : Same H0 H) (hp : H0 p = none) (hd : H0 d = none) : Same H0 H' := fun b o e => k b o (s b o e) (ne_of_none e hp) (ne_of_none e hd)
section
variable {P : Program} {w : World} {K : PySem.W.Frag} {mg : Str → Option Value} {base : Heap} {C : Addr}
/-! ### read_folio -/
abbrev s35 : Stmt := top 35
theorem sc35 : FnScope ["text", "numbers", "due", "found", "folio", "place", "turn", "part", "e"] ["text"] (defScope s35) := ⟨rfl, rfl, rfl, by decide +kernel, rfl, by decide +kernel, by decide +kernel⟩
def spRead (C : Addr) : Sp := fun vs H Q _ => ∃ (ps : List Pt), vs = [.str (S (text ps))] ∧ OK ps ∧ ∀ H' f d, Same H H' → H f = none → H d = none → FolAt C H' f d ps → Q (.ref f) H'
theorem d_read (A : At K mg "read_folio" s35 ["text"]) (T : Txt mg) (L : Cl K mg C) (D1 : Def P w K mg base "numbers_of_text" ["text"] 2 spNumsText) (D2 : Def P w K mg base "check_of" ["numbers"] 1 (spCheck K)) (D3 : Def P w K mg base "one_number" ["high", "low"] 1 spOne)
    (D4 : MDef P w K mg base C "__init__" ["self"] 1 (spInit C)) (D5 : Def P w K mg base "part_at" ["numbers", "place"] 4 (spPartAt K)) (D6 : MDef P w K mg base C "put_part" ["self", "part"] 5 (spPut C)) :
    Def P w K mg base "read_folio" ["text"] 6 (spRead C) := by
  obtain ⟨f, fd, F, g, b⟩ := A
  refine ⟨f, fd, ?_, g, F.kp, b⟩
  refine F.ok sc35 (fun vs H Q E h => ?_) (fun cdv A outer s H vs Q E hr h => ?_)
  · obtain ⟨ps, rfl, _⟩ := h
    rfl
  · obtain ⟨ps, rfl, ok, k⟩ := h
    have hr1 : Room 1 _ := hr.mono (by decide)
    have hr2 : Room 2 _ := hr.mono (by decide)
    have hr4 : Room 4 _ := hr.mono (by decide)
    have hl1 := ok.len
    have hl2 := ok.flat
    have tl := text_len ps
    refine ⟨_, pss_cons (ps_set (i := 1) sc35.nd rfl (.inl rfl) (pe_def D1 hr2 rfl (pa_cons (pv 0) pa_nil)))
      (pss_cons (ps_if (PW.pt (pw_or (pt_cmpR op_lt (pe_callB call_len_seq (by rfl) T.len PySem.boot_len (pa_cons (pv 1) pa_nil)) (pe_gI T.LEAST_SIGNS rfl) (nomark _))
        (pw_or1 (pt_cmpR op_ne (pe_slice sl_str (pv 0) po_none (po_some (pe_callB call_len_str (by rfl) T.len PySem.boot_len (pa_cons (pe_gS T.HEAD rfl) pa_nil)))) (pe_gS T.HEAD rfl) (nomark _))))) pss_never pss_nil)
      (pss_cons (ps_set (i := 2) sc35.nd rfl (.inl rfl) (pe_def D2 hr1 rfl (pa_cons (pe_slice sl_list (pv 1) po_none (po_some (pe_un un_neg pe_int))) pa_nil)))
      (pss_cons (ps_set (i := 3) sc35.nd rfl (.inl rfl) (pe_def D3 hr1 rfl (pa_cons (pe_ix ix_list (pv 1) (pe_un un_neg pe_int) (fun _ _ => rfl)) (pa_cons (pe_ix ix_list (pv 1) (pe_un un_neg pe_int) (fun _ _ => rfl)) pa_nil))))
      (pss_cons (ps_if (pt_cmpR op_ne (pv 2) (pv 3) (nomark _)) pss_never pss_nil)
      (pss_cons (ps_set (i := 4) sc35.nd rfl (.inl rfl) (pe_mk0 D4 L hr2 rfl))
      (pss_cons (ps_set (i := 5) sc35.nd rfl (.inl rfl) (pe_op op_add (pe_callB call_len_str (by rfl) T.len PySem.boot_len (pa_cons (pe_gS T.HEAD rfl) pa_nil)) pe_int))
      (pss_cons (ps_for PassesOwn.never rfl (pi_range1 (by rfl) T.range (pa_cons (pe_def D3 hr1 rfl (pa_cons (pe_ix ix_list (pv 1) pe_int (fun _ _ => rfl)) (pa_cons (pe_ix ix_list (pv 1) pe_int (fun _ _ => rfl)) pa_nil))) pa_nil)) (pg_name (i := 6) sc35.nd rfl (.inl rfl))
        (pss_cons (ps_asg (pe_def D5 hr4 rfl (pa_cons (pe_slice sl_list (pv 1) po_none (po_some (pe_un un_neg pe_int))) (pa_cons (pv 5) pa_nil))) (pg_tup rfl (pgs_cons (pg_name (i := 7) sc35.nd rfl (.inl rfl)) (pgs_cons (pg_name (i := 5) sc35.nd rfl (.inl rfl)) pgs_nil))))
        (pss_one (ps_try_thru0 (pss_one (ps_expr (pe_mdef D6 (pv 4) L.cl hr (pa_cons (pv 7) pa_nil))))))))
      (pss_cons (ps_if (pt_cmpR op_ne (pv 5) (pe_op op_sub (pe_callB call_len_seq (by rfl) T.len PySem.boot_len (pa_cons (pv 1) pa_nil)) pe_int) (nomark _)) pss_never pss_nil)
      (pss_one (ps_ret (pv 4))))))))))), ?_⟩
    -- numbers
    refine ⟨_, rfl, text ps, rfl, text_mem ok.good (by omega), by omega, fun H1 a s1 ha ea => ?_⟩
    rw [text_nums ok.good (by omega)] at ea
    have wl := whole_len ps
    have wm : ((whole ps).map V.int).length = (whole ps).length := List.length_map ..
    have w2 : (whole ps).map V.int = (nums ps).map V.int ++ [.int (chk (nums ps) / 64), .int (chk (nums ps) % 64)] := by
      unfold whole two
      rw [List.map_append]
      rfl
    have c1 := chk_nn (nums ps)
    have c2 := chk_lt (nums ps)
    refine ⟨_, rfl, a, _, rfl, .inl (SqL.of ea), _, _, rfl, rfl, false, congrArg V.bl (decide_eq_false (by omega)), ?_⟩
    refine iteF ?_
    refine ⟨_, rfl, S [67, 70, 49], rfl, (by show 3 ≤ sizeLine; decide), _, rfl, _, rfl, by rw [S_len]; exact five' (by omega), rfl, false, ?_, ?_⟩
    · rw [show (((S [67, 70, 49]).length : Nat) : Int) = 3 from rfl, cutS_3 (by omega), text_head, decide_eq_true rfl]
      rfl
    refine iteF ?_
    -- due
    refine ⟨_, rfl, _, rfl, _, rfl, a, _, rfl, SqL.of ea, fun c hc => ?_⟩
    rw [w2, cut_m2]
    have s2 : Same H1 (upd H1 c (.lst ((nums ps).map V.int))) := same_upd hc
    have six := nums_six ok.good (by omega)
    have nl := nums_len ps
    refine ⟨c, nums ps, rfl, SqL.of upd_same, six, by omega, fun H3 s3 => ?_⟩
    have s13 := (s1.trans s2).trans s3
    have ea3 := (s2.trans s3) _ _ ea
    -- found
    refine ⟨_, rfl, _, rfl, a, _, _, _, rfl, rfl, SqL.of ea3, by rw [w2]; exact at_m2 _ _ _, _, rfl, _, rfl, a, _, _, _, rfl, rfl, SqL.of ea3, by rw [w2]; exact at_m1 _ _ _, ?_⟩
    refine ⟨_, _, rfl, by omega, by omega, by omega, by omega, ?_⟩
    have e64 : chk (nums ps) / 64 * 64 + chk (nums ps) % 64 = chk (nums ps) := by omega
    rw [e64]
    refine ⟨_, rfl, _, rfl, rfl, _, rfl, ?_⟩
    refine iteNS rfl ?_
    -- folio = Folio()
    intro x dx nx ndx nex
    have s4 : Same H3 (upd (upd H3 dx (.own x)) x (.ins C dx [])) := fun b o e => (upd_ne (ne_of_none e nx)).trans ((upd_ne (ne_of_none e ndx)).trans e)
    refine ⟨x, dx, rfl, upd_same, fun d H5 hd FA kp => ⟨rfl, ?_⟩⟩
    have d3 : H3 d = none := free_of s4 hd
    have s5 : Same H3 H5 := fun b o e => kp b o (s4 b o e) (ne_of_none e nx)
    -- place
    refine ⟨S [67, 70, 49], rfl, (by show 3 ≤ sizeLine; decide), _, _, rfl, rfl, ?_⟩
    have g3 : ((whole ps).map V.int)[3]? = some (.int ((ps.length : Int) / 64)) := rfl
    have g4 : ((whole ps).map V.int)[4]? = some (.int ((ps.length : Int) % 64)) := rfl
    refine ⟨_, rfl, a, _, _, _, rfl, rfl, SqL.of (s5 _ _ ea3), atI_nat (j := 3) g3, _, rfl, a, _, _, _, rfl, rfl, SqL.of (s5 _ _ ea3), atI_nat (j := 4) g4, ?_⟩
    refine ⟨_, _, rfl, by omega, by omega, by omega, by omega, ?_⟩
    have el : (ps.length : Int) / 64 * 64 + (ps.length : Int) % 64 = (ps.length : Int) := by omega
    rw [el]
    refine ⟨_, rfl, by omega, by omega, ?_⟩
    rw [show ((ps.length : Int)).toNat = ps.length by omega]
    refine for_range (lo := 0) (n := ps.length) (fun i σ H' => ∃ v6 v7, σ = [some (.str (S (text ps))), some (.ref a), some (.int (chk (nums ps))), some (.int (chk (nums ps))), some (.ref x), some (.int ((upto ps i).length : Int)), v6, v7, none] ∧ Same H3 H' ∧ FolAt C H' x d (ps.take i))
      ⟨none, none, rfl, s5, FA⟩ (fun i σ H' hi hp => ?_) (fun σ H' hp => ?_)
    · obtain ⟨v6, v7, rfl, s6, FB⟩ := hp
      obtain ⟨q, hq⟩ := lt_get hi
      have gq := ok.good q (get_mem hq)
      have ea6 := s6 _ _ ea3
      refine ⟨_, rfl, _, rfl, _, rfl, a, _, rfl, SqL.of ea6, fun c6 hc6 => ?_⟩
      rw [w2, cut_m2]
      have s7 : Same H' (upd H' c6 (.lst ((nums ps).map V.int))) := same_upd hc6
      refine ⟨_, rfl, c6, upto ps i, flat (ps.drop (i + 1)), q, rfl, SqL.of ?_, gq, ?_, fun H8 u t r s8 hu pt => ?_⟩
      · rw [upd_same, ← upto_split hq]
      · rw [← upto_split hq]
        omega
      refine ⟨u, _, rfl, SqT.of hu, rfl, _, _, rfl, _, _, rfl, rfl, ?_⟩
      have s68 := s7.trans s8
      obtain ⟨dy, fs, ef, f1, f2, f3⟩ := id (FB.same s68).ex
      have tk : ps.take (i + 1) = ps.take i ++ [q] := by rw [List.take_add_one, hq]; rfl
      have hnew : Cf.key q ∉ (ps.take i).map Cf.key := by
        have nd : ((ps.take (i + 1)).map Cf.key).Nodup := by
          rw [List.map_take]
          exact ok.nd.sublist (List.take_sublist _ _)
        rw [tk, List.map_append] at nd
        exact fun hm => (List.nodup_append.mp nd).2.2 _ hm _ (List.mem_singleton.mpr rfl) rfl
      have fz := flat_take_le ps (i + 1)
      rw [tk, flat_snoc, List.length_append] at fz
      refine ⟨_, rfl, x, dy, _, rfl, f1, flds_no _ _ (by decide +kernel) (by decide +kernel), _, rfl, x, d, t, r, ps.take i, q, rfl, FB.same s68, pt, gq, hnew, ?_, ?_, fun H9 k9 F9 _ => ?_⟩
      · unfold size
        omega
      · rw [List.length_take]
        omega
      · refine ⟨some (.int (0 + ((i : Nat) : Int))), some (.ref t), ?_, keep_same k9 (s6.trans s68) nx d3, by rw [tk]; exact F9⟩
        rw [upto_succ hq]
        rfl
    · obtain ⟨v6, v7, rfl, s6, FB⟩ := hp
      refine ⟨_, rfl, _, rfl, a, _, rfl, .inl (SqL.of (s6 _ _ ea3)), _, _, rfl, rfl, rfl, _, rfl, ?_⟩
      have e1 : ((upto ps ps.length).length : Int) = ((((whole ps).map V.int).length : Nat) : Int) - 2 := by
        rw [upto_all]
        omega
      refine iteNS (by rw [e1]) ?_
      rw [List.take_length] at FB
      exact ⟨_, rfl, k _ x d (s13.trans s6) (free_of s13 nx) (free_of s13 d3) FB⟩
end
end Cf
namespace Cf
open PySem L2
theorem sigs_str : Str.ofString "0123456789abcdefghijklmnopqrstuvwxyzABCDEFGHIJKLMNOPQRSTUVWXYZ+-" = S sigs := by decide +kernel
theorem lets_str : Str.ofString "abcdefghijklmnopqrstuvwxyz" = S lets := by decide +kernel
theorem lets_at {i : Int} (h0 : 0 ≤ i) (h1 : i < 26) : lets[i.toNat]? = some (letter i) := by
  have h : ∀ k : _root_.Fin 26, lets[k.val]? = some (97 + k.val) := by decide +kernel
  exact h ⟨i.toNat, by omega⟩
theorem range_get {n i : Nat} (h : i < n) : (List.range n)[i]? = some i := by
  rw [List.getElem?_range h]
section
variable {P : Program} {w : World} {K : PySem.W.Frag} {mg : Str → Option Value} {base : Heap} {C : Addr}

/-! ### _law_cell_at -/
abbrev s37 : Stmt := top 37
theorem sc37 : FnScope ["_law_script", "_law_k"] ["_law_script", "_law_k"] (defScope s37) := ⟨rfl, rfl, rfl, by decide +kernel, rfl, by decide +kernel, by decide +kernel⟩
def spCell (K : PySem.W.Frag) : Sp := fun vs H Q _ => ∃ (a : Addr) (ns : List Int) (k : Nat), vs = [.ref a, .int (k : Int)] ∧ SqL K H a (ns.map V.int) ∧ Q (.int (cellAt ns k)) H
theorem d_cell (A : At K mg "_law_cell_at" s37 ["_law_script", "_law_k"]) (T : Txt mg) : Def P w K mg base "_law_cell_at" ["_law_script", "_law_k"] 1 (spCell K) := by
  obtain ⟨f, fd, F, g, b⟩ := A
  refine ⟨f, fd, ?_, g, F.kp, b⟩
  refine F.ok sc37 (fun vs H Q E h => ?_) (fun cdv A outer s H vs Q E hr h => ?_)
  · obtain ⟨a, ns, k, rfl, _⟩ := h
    rfl
  · obtain ⟨a, ns, k, rfl, hS, q⟩ := h
    refine ⟨_, pss_cons (ps_if (pt_cmpR op_lt (pv 1) (pe_callB call_len_seq (by rfl) T.len PySem.boot_len (pa_cons (pv 0) pa_nil)) (nomark _)) (pss_one (ps_ret (pe_ix ix_list (pv 0) (pv 1) (fun _ _ => rfl)))) pss_nil)
      (pss_one (ps_ret pe_int)), ?_⟩
    refine ⟨_, rfl, _, rfl, a, _, rfl, .inl hS, _, _, rfl, rfl, _, rfl, ite2 (fun e => ?_) (fun e => ?_)⟩
    · have e1 := of_decide_eq_true e
      rw [List.length_map] at e1
      obtain ⟨x, hx⟩ := lt_get (l := ns) (i := k) (by omega)
      refine ⟨_, rfl, _, rfl, a, _, _, _, rfl, rfl, hS, atI_nat (map_get hx), ?_⟩
      have : cellAt ns k = x := by unfold cellAt; rw [List.getD_eq_getElem?_getD, hx]; rfl
      rw [this] at q
      exact q
    · have e1 : ¬ ((k : Int) < ((ns.map V.int).length : Nat)) := fun z => e (decide_eq_true z)
      rw [List.length_map] at e1
      have : cellAt ns k = 0 := by
        unfold cellAt
        rw [List.getD_eq_getElem?_getD, List.getElem?_eq_none (by omega)]
        rfl
      rw [this] at q
      exact q

/-! ### _law_mixed -/
abbrev s38 : Stmt := top 38
theorem sc38 : FnScope ["_law_cell", "_law_k", "_law_number"] ["_law_cell", "_law_k"] (defScope s38) := ⟨rfl, rfl, rfl, by decide +kernel, rfl, by decide +kernel, by decide +kernel⟩
def spMixed : Sp := fun vs H Q _ => ∃ c k : Int, vs = [.int c, .int k] ∧ Q (.int (mixed c k)) H
theorem d_mixed (A : At K mg "_law_mixed" s38 ["_law_cell", "_law_k"]) : Def P w K mg base "_law_mixed" ["_law_cell", "_law_k"] 1 spMixed := by
  obtain ⟨f, fd, F, g, b⟩ := A
  refine ⟨f, fd, ?_, g, F.kp, b⟩
  refine F.ok sc38 (fun vs H Q E h => ?_) (fun cdv A outer s H vs Q E hr h => ?_)
  · obtain ⟨c, k, rfl, _⟩ := h
    rfl
  · obtain ⟨c, k, rfl, q⟩ := h
    refine ⟨_, pss_cons (ps_set (i := 2) sc38.nd rfl (.inl rfl) (pe_op op_mod (pe_op op_add (pe_op op_add (pe_op op_mul (pv 0) pe_int) (pe_op op_mul pe_int (pv 1))) pe_int) pe_int))
      (pss_one (ps_ret (pe_op op_mod (pe_op op_mul (pe_op op_mod (pe_op op_mul (pv 2) (pv 2)) pe_int) (pv 2)) pe_int))), ?_⟩
    have hb := mix0_b c k
    have hM : (0 : Int) < 2147483647 := by decide
    refine ⟨_, rfl, _, _, rfl, rfl, .inr ⟨by decide, by decide⟩, _, rfl, _, _, rfl, rfl, .inl ⟨by decide, by decide⟩, _, _, rfl, rfl, _, _, rfl, rfl, _, _, rfl, rfl, hM, ?_⟩
    have hm : -(2 ^ 64) < mix0 c k ∧ mix0 c k < 2 ^ 64 := by omega
    have hn : (0 : Int) ≤ mix0 c k * mix0 c k % 2147483647 := Int.emod_nonneg _ (by decide)
    have hn2 : mix0 c k * mix0 c k % 2147483647 < 2147483647 := Int.emod_lt_of_pos _ hM
    have hm2 : -(2 ^ 64) < mix0 c k * mix0 c k % 2147483647 ∧ mix0 c k * mix0 c k % 2147483647 < 2 ^ 64 := by omega
    refine ⟨_, rfl, _, rfl, _, _, rfl, rfl, .inl hm, _, _, rfl, rfl, hM, _, rfl, _, _, rfl, rfl, .inl hm2, _, _, rfl, rfl, hM, q⟩

/-! ### _law_signs -/
abbrev s39 : Stmt := top 39
theorem sc39 : FnScope [] [] (defScope s39) := ⟨rfl, rfl, rfl, by decide +kernel, rfl, by decide +kernel, by decide +kernel⟩
def spLSigns : Sp := fun vs H Q _ => vs = [] ∧ Q (.str (S sigs)) H
theorem d_lsigns (A : At K mg "_law_signs" s39 []) : Def P w K mg base "_law_signs" [] 1 spLSigns := by
  obtain ⟨f, fd, F, g, b⟩ := A
  refine ⟨f, fd, ?_, g, F.kp, b⟩
  refine F.ok sc39 (fun vs H Q E h => ?_) (fun cdv A outer s H vs Q E hr h => ?_)
  · obtain ⟨rfl, _⟩ := h
    rfl
  · obtain ⟨rfl, q⟩ := h
    rw [← sigs_str] at q
    exact ⟨_, pss_one (ps_ret pe_str), q⟩

/-! ### _law_name -/
abbrev s40 : Stmt := top 40
theorem sc40 : FnScope ["_law_cell", "_law_letters", "_law_j"] ["_law_cell"] (defScope s40) := ⟨rfl, rfl, rfl, by decide +kernel, rfl, by decide +kernel, by decide +kernel⟩
def spLName : Sp := fun vs H Q _ => ∃ c : Int, vs = [.int c] ∧ ∀ H', Same H H' → Q (.str (S (lname c))) H'
theorem d_lname (A : At K mg "_law_name" s40 ["_law_cell"]) (T : Txt mg) (D : Def P w K mg base "_law_mixed" ["_law_cell", "_law_k"] 1 spMixed) : Def P w K mg base "_law_name" ["_law_cell"] 2 spLName := by
  obtain ⟨f, fd, F, g, b⟩ := A
  refine ⟨f, fd, ?_, g, F.kp, b⟩
  refine F.ok sc40 (fun vs H Q E h => ?_) (fun cdv A outer s H vs Q E hr h => ?_)
  · obtain ⟨c, rfl, _⟩ := h
    rfl
  · obtain ⟨c, rfl, q⟩ := h
    refine ⟨_, pss_cons (ps_set (i := 1) sc40.nd rfl (.inr rfl) pe_str)
      (pss_one (ps_ret (pe_join pe_str (pe_lc (own := [("_law_j", 2)]) (g := gName 2) rfl sc40.nd (pi_range1 (by rfl) T.range (pa_cons (pe_op op_add pe_int (pe_op op_mod (pv 0) pe_int)) pa_nil)) (blkOk_by (N := ["_law_cell", "_law_letters", "_law_j"]) (sc := defScope s40) (by decide +kernel))
        (fun _ _ _ _ _ => pg_name (i := 2) sc40.nd rfl (Or.inl rfl)) (fun _ _ _ _ _ => pts_nil)
        (fun _ _ _ _ _ => pe_item_str (pv 1) (pe_op op_mod (pe_op op_fdiv (pe_def D hr rfl (pa_cons (pv 0) (pa_cons (pv 2) pa_nil))) pe_int) pe_int) (fun _ _ => rfl)))))), ?_⟩
    refine ⟨⟨_, rfl⟩, ?_⟩
    refine ⟨_, rfl, _, _, rfl, rfl, (by show (0 : Int) < 8; decide), _, _, rfl, rfl, _, rfl, by omega, by omega, fun Dl hD => ?_⟩
    refine lc_map ((lname c).map fun x => V.str (S [x])) hD (by rw [List.length_map, lname_len]; exact five' (by omega)) (fun i H1 hi s1 => ?_) (fun H1 s1 => ?_) (fun i x H1 H2 hi s1 hy G hG => ?_) (fun H1 s1 e1 => ?_)
    · rw [List.length_map, lname_len] at hi
      exact hi
    · rw [List.length_map, lname_len]
      exact Nat.le_refl _
    · obtain ⟨rfl, rfl⟩ := hy
      rw [List.length_map, lname_len] at hi
      refine hG _ _ rfl fun Q2 hQ => ?_
      refine ⟨_, rfl, _, rfl, _, rfl, c, _, rfl, _, _, rfl, rfl, ⟨by decide, by decide⟩, _, _, rfl, rfl, (by show (0 : Int) < 26; decide), ?_⟩
      rw [Int.zero_add, lets_str]
      have hb0 : 0 ≤ mixed c (i : Nat) / 8 % 26 := Int.emod_nonneg _ (by decide)
      have hb1 : mixed c (i : Nat) / 8 % 26 < 26 := Int.emod_lt_of_pos _ (by decide)
      refine ⟨S lets, _, letter (mixed c (i : Nat) / 8 % 26), rfl, rfl, hb0, by omega, ?_, S_get (lets_at hb0 hb1), hQ _ _ (Same.refl _) (map_get (map_get (range_get hi)))⟩
      show mixed c (i : Nat) / 8 % 26 < 26
      exact hb1
    · refine ⟨_, Dl, (lname c).map (fun c => S [c]), rfl, rfl, .inl (SqL.of ?_), join_room _ (by rw [lname_len]; omega), ?_⟩
      · rw [e1, List.map_map]
        rfl
      · rw [empty_S, join_signs]
        exact q H1 s1

/-! ### _law_check -/
abbrev s41 : Stmt := top 41
theorem sc41 : FnScope ["_law_numbers", "_law_found", "_law_k"] ["_law_numbers"] (defScope s41) := ⟨rfl, rfl, rfl, by decide +kernel, rfl, by decide +kernel, by decide +kernel⟩
theorem d_lcheck (A : At K mg "_law_check" s41 ["_law_numbers"]) (T : Txt mg) : Def P w K mg base "_law_check" ["_law_numbers"] 1 (spCheck K) := by
  obtain ⟨f, fd, F, g, b⟩ := A
  refine ⟨f, fd, ?_, g, F.kp, b⟩
  refine F.ok sc41 (fun vs H Q E h => ?_) (fun cdv A outer s H vs Q E hr h => ?_)
  · obtain ⟨a, l, rfl, _⟩ := h
    rfl
  · obtain ⟨a, l, rfl, hS, h6, hl, k⟩ := h
    refine ⟨_, pss_cons (ps_set (i := 1) sc41.nd rfl (.inl rfl) pe_int)
      (pss_cons (ps_for PassesOwn.never rfl (pi_range1 (by rfl) T.range (pa_cons (pe_callB call_len_seq (by rfl) T.len PySem.boot_len (pa_cons (pv 0) pa_nil)) pa_nil)) (pg_name (i := 2) sc41.nd rfl (.inl rfl))
        (pss_one (ps_set (i := 1) sc41.nd rfl (.inl rfl) (pe_op op_add (pv 1) (pe_op op_mul (pe_op op_add (pv 2) pe_int) (pe_ix ix_list (pv 0) (pv 2) (fun _ _ => rfl)))))))
      (pss_one (ps_ret (pe_op op_mod (pv 1) pe_int)))), ?_⟩
    refine ⟨_, rfl, a, _, rfl, .inl hS, _, rfl, by omega, by rw [List.length_map]; omega, ?_⟩
    rw [List.length_map, show ((l.length : Int)).toNat = l.length by omega]
    refine for_range (lo := 0) (n := l.length) (fun i σ H1 => ∃ v2, σ = [some (.ref a), some (.int (wsum 0 (l.take i))), v2] ∧ H1 = H) ⟨none, rfl, rfl⟩ (fun i σ H1 hi hp => ?_) (fun σ H1 hp => ?_)
    · obtain ⟨v2, rfl, rfl⟩ := hp
      obtain ⟨z, hz⟩ := lt_get hi
      refine ⟨_, rfl, _, rfl, _, _, rfl, rfl, _, rfl, _, rfl, a, _, _, _, rfl, rfl, hS, at_of (by rw [Int.zero_add]) (map_get hz), _, _, rfl, rfl, .inl ⟨by omega, by omega⟩, _, _, rfl, rfl, some (.int (0 + ((i : Nat) : Int))), ?_, rfl⟩
      rw [wsum_take hz, Int.zero_add]
      rfl
    · obtain ⟨v2, rfl, rfl⟩ := hp
      refine ⟨_, rfl, _, _, rfl, rfl, (by show (0 : Int) < 4093; decide), ?_⟩
      rw [List.take_length]
      exact k _ (Same.refl _)
end
end Cf
namespace Cf
open PySem L2
section
variable {P : Program} {w : World} {K : PySem.W.Frag} {mg : Str → Option Value} {base : Heap} {C : Addr}
abbrev tIndex (K : PySem.W.Frag) (to : TE) (t : TA) : TE := tBMS K "str" (rIndexX (fun _ _ _ _ => False)) to t
theorem idx_num {c j : Nat} (hc : c ∈ sigs) (hj : Txt.index0 (S sigs) (S [c]) = some j) : ((j : Nat) : Int) = num c := by
  rw [index_sigs c hc] at hj
  cases hj
  rfl
theorem idx_no {c : Nat} (hc : c ∈ sigs) (hn : Txt.index0 (S sigs) (S [c]) = none) : False := by
  rw [index_sigs c hc] at hn
  cases hn

/-! ### _law_part_numbers -/
abbrev s42 : Stmt := top 42
theorem sc42 : FnScope ["_law_part", "_law_kind", "_law_name_here", "_law_numbers", "_law_signs_here", "_law_found", "_law_sign"] ["_law_part"] (defScope s42) := ⟨rfl, rfl, rfl, by decide +kernel, rfl, by decide +kernel, by decide +kernel⟩
theorem d_lpartnums (A : At K mg "_law_part_numbers" s42 ["_law_part"]) (T : Txt mg) (D : Def P w K mg base "_law_signs" [] 1 spLSigns) : Def P w K mg base "_law_part_numbers" ["_law_part"] 2 spPartNums := by
  obtain ⟨f, fd, F, g, b⟩ := A
  refine ⟨f, fd, ?_, g, F.kp, b⟩
  refine F.ok sc42 (fun vs H Q E h => ?_) (fun cdv A outer s H vs Q E hr h => ?_)
  · obtain ⟨t, r, p, rfl, _⟩ := h
    rfl
  · obtain ⟨t, r, p, rfl, hp, gd, k⟩ := h
    have n8 := gd.n8
    have xl := gd.len
    refine ⟨_, pss_cons (ps_asg (pv 0) (pg_tup rfl (pgs_cons (pg_name (i := 1) sc42.nd rfl (.inl rfl)) (pgs_cons (pg_name (i := 2) sc42.nd rfl (.inl rfl)) (pgs_cons (pg_name (i := 3) sc42.nd rfl (.inl rfl)) pgs_nil)))))
      (pss_cons (ps_set (i := 4) sc42.nd rfl (.inr rfl) (pe_def0 D hr rfl))
      (pss_cons (ps_set (i := 5) sc42.nd rfl (.inl rfl) (pe_op op_cat
          (pe_lst (pa_cons (pe_bmS PySem.F.plainAttrs_str PySem.F.slot_str_index PySem.F.type_str_index (mt_indexX rfl takes_none5) (pv 4) (pa_cons (pv 1) pa_nil)) (pa_cons (pe_callB call_len_str (by rfl) T.len PySem.boot_len (pa_cons (pv 2) pa_nil)) pa_nil)))
          (pe_lc (own := [("_law_sign", 6)]) (g := gName 6) (te := tIndex K (tVar 4) (tCons (tVar 6) tNil)) rfl sc42.nd (pi_str (pv 2)) (blkOk_by (N := ["_law_part", "_law_kind", "_law_name_here", "_law_numbers", "_law_signs_here", "_law_found", "_law_sign"]) (sc := defScope s42) (by decide +kernel))
            (fun _ _ _ _ _ => pg_name (i := 6) sc42.nd rfl (Or.inl rfl)) (fun _ _ _ _ _ => pts_nil)
            (fun _ _ _ _ _ => pe_bmS PySem.F.plainAttrs_str PySem.F.slot_str_index PySem.F.type_str_index (mt_indexX rfl takes_none5) (pv 4) (pa_cons (pv 6) pa_nil)))))
      (pss_one (ps_ret (pe_op op_cat (pe_op op_cat (pv 5) (pe_lst (pa_cons (pe_op op_fdiv (pe_callB call_len_seq (by rfl) T.len PySem.boot_len (pa_cons (pv 3) pa_nil)) pe_int) (pa_cons (pe_op op_mod (pe_callB call_len_seq (by rfl) T.len PySem.boot_len (pa_cons (pv 3) pa_nil)) pe_int) pa_nil)))) (pv 3)))))), ?_⟩
    refine ⟨_, rfl, t, _, rfl, SqT.of hp.1, rfl, _, _, rfl, _, _, rfl, _, _, rfl, rfl, ?_⟩
    refine ⟨rfl, ?_⟩
    refine ⟨_, rfl, rfl, _, rfl, S sigs, S [p.k], rfl, rfl, fun j hj => ?_, fun hn d => idx_no gd.k.mem hn⟩
    rw [idx_num gd.k.mem hj]
    refine ⟨_, rfl, _, rfl, by rw [S_len]; exact five' (by omega), (by show 2 ≤ sizeLine; decide), fun l hl => ?_⟩
    rw [S_len]
    have s1 : Same H (upd H l (.lst [.int (num p.k), .int (p.n.length : Int)])) := same_upd hl
    refine ⟨_, rfl, S p.n, rfl, fun Dl hD => ?_⟩
    have es : (S p.n).cps.size = p.n.length := List.size_toArray
    refine lc_map ((p.n.map num).map V.int) hD (by rw [List.length_map, List.length_map]; exact five' (by omega)) (fun i H3 hi s3 => ?_) (fun H3 s3 => ?_) (fun i x H3 H4 hi s3 hy G hG => ?_) (fun H3 s3 e3 => ?_)
    · rw [List.length_map, List.length_map] at hi
      exact Nat.lt_of_lt_of_eq hi es.symm
    · rw [List.length_map, List.length_map]
      exact Nat.le_of_eq es
    · obtain ⟨rfl, c, hc, rfl⟩ := hy
      have hc' : p.n[i]? = some c := by
        rw [← hc]
        exact List.getElem?_toArray.symm
      refine hG _ _ rfl fun Q2 hQ => ?_
      refine ⟨_, rfl, rfl, _, rfl, S sigs, S [c], rfl, rfl, fun j hj => ?_, fun hn d => idx_no (gd.ns c (get_mem hc')).mem hn⟩
      rw [idx_num (gd.ns c (get_mem hc')).mem hj]
      exact hQ _ _ (Same.refl _) (map_get (map_get hc'))
    have s13 := s1.trans s3
    refine ⟨l, Dl, _, _, rfl, rfl, s3 _ _ upd_same, e3, ?_, fun z hz => ?_⟩
    · rw [List.length_map, List.length_map]
      exact five' (by show 2 + _ ≤ 5000; omega)
    have s4 : Same H3 (upd H3 z (.lst ([.int (num p.k), .int (p.n.length : Int)] ++ (p.n.map num).map V.int))) := same_upd hz
    have s14 := s13.trans s4
    have hp4 := hp.same s14
    -- return found + [..] + numbers
    refine ⟨_, rfl, _, rfl, r, _, rfl, .inl (SqL.of hp4.2), _, _, rfl, rfl, ⟨by decide, by decide⟩, _, rfl, r, _, rfl, .inl (SqL.of hp4.2), _, _, rfl, rfl, (by show (0 : Int) < 64; decide), (by show 2 ≤ sizeLine; decide), fun u hu => ?_⟩
    rw [List.length_map]
    have nzu : z ≠ u := ne_of_none upd_same hu
    refine ⟨z, u, _, _, rfl, rfl, (upd_ne nzu).trans upd_same, upd_same, ?_, fun y hy => ?_⟩
    · rw [List.length_append, List.length_map, List.length_map]
      exact five' (by show 2 + _ + 2 ≤ 5000; omega)
    have s16 := (s14.trans (same_upd (o := .lst [.int ((p.xs.length : Int) / 64), .int ((p.xs.length : Int) % 64)]) hu)).trans (same_upd (o := .lst (([.int (num p.k), .int (p.n.length : Int)] ++ (p.n.map num).map V.int) ++ [.int ((p.xs.length : Int) / 64), .int ((p.xs.length : Int) % 64)])) hy)
    refine ⟨_, rfl, y, r, _, _, rfl, rfl, upd_same, s16 _ _ hp.2, ?_, fun x hx => ?_⟩
    · rw [List.length_append, List.length_append, List.length_map, List.length_map, List.length_map]
      exact five' (by show 2 + _ + 2 + _ ≤ 5000; omega)
    refine k _ x (s16.trans (same_upd hx)) (free_of s16 hx) ?_
    rw [upd_same]
    refine congrArg (fun l => some (HO.lst l)) ?_
    unfold partNums
    rw [List.map_cons, List.map_cons, List.map_append, List.map_append, List.append_assoc, List.append_assoc]
    rfl

/-! ### _law_sealed -/
abbrev s43 : Stmt := top 43
theorem sc43 : FnScope ["_law_numbers", "_law_signs_here", "_law_whole", "_law_one"] ["_law_numbers"] (defScope s43) := ⟨rfl, rfl, rfl, by decide +kernel, rfl, by decide +kernel, by decide +kernel⟩
def spSealed : Sp := fun vs H Q _ => ∃ (a : Addr) (l : List Int), vs = [.ref a] ∧ H a = some (.lst (l.map V.int)) ∧ Six l ∧ l.length ≤ 4990 ∧ ∀ H', Same H H' → Q (.str (S ((l ++ two (chk l)).map sign))) H'
theorem d_sealed (A : At K mg "_law_sealed" s43 ["_law_numbers"]) (T : Txt mg) (D1 : Def P w K mg base "_law_signs" [] 1 spLSigns) (D2 : Def P w K mg base "_law_check" ["_law_numbers"] 1 (spCheck K)) : Def P w K mg base "_law_sealed" ["_law_numbers"] 2 spSealed := by
  obtain ⟨f, fd, F, g, b⟩ := A
  refine ⟨f, fd, ?_, g, F.kp, b⟩
  refine F.ok sc43 (fun vs H Q E h => ?_) (fun cdv A outer s H vs Q E hr h => ?_)
  · obtain ⟨a, l, rfl, _⟩ := h
    rfl
  · obtain ⟨a, l, rfl, ha, h6, hl, k⟩ := h
    refine ⟨_, pss_cons (ps_set (i := 1) sc43.nd rfl (.inr rfl) (pe_def0 D1 hr rfl))
      (pss_cons (ps_set (i := 2) sc43.nd rfl (.inl rfl) (pe_op op_cat (pv 0) (pe_callTy call_list_of (by rfl) T.list PyProof.Rows.boot_list (pa_cons (pe_callB call_divmod (by rfl) T.dm PyProof.Rows.boot_divmod (pa_cons (pe_def D2 hr rfl (pa_cons (pv 0) pa_nil)) (pa_cons pe_int pa_nil))) pa_nil))))
      (pss_one (ps_ret (pe_join pe_str (pe_lc (own := [("_law_one", 3)]) (g := gName 3) rfl sc43.nd (pi_list (pv 2)) (blkOk_by (N := ["_law_numbers", "_law_signs_here", "_law_whole", "_law_one"]) (sc := defScope s43) (by decide +kernel))
        (fun _ _ _ _ _ => pg_name (i := 3) sc43.nd rfl (Or.inl rfl)) (fun _ _ _ _ _ => pts_nil) (fun _ _ _ _ _ => pe_item_str (pv 1) (pv 3) (fun _ _ => rfl))))))), ?_⟩
    refine ⟨rfl, ?_⟩
    refine ⟨_, rfl, _, rfl, a, l, rfl, SqL.of ha, h6, by omega, fun H1 s1 => ?_⟩
    have c1 := chk_nn l
    have c2 := chk_lt l
    refine ⟨_, _, rfl, ⟨by decide, by decide⟩, fun q hq => ⟨q, _, rfl, .inr (SqT.of upd_same), fun u hu => ?_⟩⟩
    have ha2 := same_upd (o := .tup [.int (chk l / 64), .int (chk l % 64)]) hq _ _ (s1 _ _ ha)
    have nau : a ≠ u := ne_of_none ha2 hu
    refine ⟨a, u, _, _, rfl, rfl, (upd_ne nau).trans ha2, upd_same, ?_, fun z hz => ?_⟩
    · rw [List.length_map]
      exact five' (by show _ + 2 ≤ 5000; omega)
    have s4 := ((s1.trans (same_upd (o := .tup [.int (chk l / 64), .int (chk l % 64)]) hq)).trans (same_upd (o := .lst [.int (chk l / 64), .int (chk l % 64)]) hu)).trans (same_upd (o := .lst (l.map V.int ++ [.int (chk l / 64), .int (chk l % 64)])) hz)
    have hz4 : upd (upd (upd H1 q (.tup [.int (chk l / 64), .int (chk l % 64)])) u (.lst [.int (chk l / 64), .int (chk l % 64)])) z (.lst (l.map V.int ++ [.int (chk l / 64), .int (chk l % 64)])) z = some (.lst ((l ++ two (chk l)).map V.int)) := by
      rw [upd_same, List.map_append]
      rfl
    have w6 : Six (l ++ two (chk l)) := .app h6 (.two c1 (by omega))
    have wl : (l ++ two (chk l)).length ≤ 5000 := by
      rw [List.length_append]
      show _ + 2 ≤ 5000
      omega
    refine ⟨⟨_, rfl⟩, ?_⟩
    refine ⟨_, rfl, z, rfl, ⟨_, SqL.of hz4⟩, fun Dl hD => ?_⟩
    refine lc_map ((l ++ two (chk l)).map fun i => V.str (S [sign i])) hD (by rw [List.length_map]; exact five' wl) (fun i H5 hi s5 => ?_) (fun H5 s5 => ?_) (fun i x H5 H6 hi s5 hy G hG => ?_) (fun H5 s5 e5 => ?_)
    · rw [List.length_map] at hi
      obtain ⟨x, hx⟩ := lt_get hi
      exact ⟨_, _, SqL.of (s5 _ _ hz4), map_get hx⟩
    · exact ⟨_, SqL.of (s5 _ _ hz4), by rw [List.length_map, List.length_map]; exact Nat.le_refl _⟩
    · obtain ⟨rfl, hx⟩ := hy
      obtain ⟨y, hy, rfl⟩ := get_map (hx _ (SqL.of (s5 _ _ hz4)))
      refine hG _ _ rfl fun Q2 hQ => ?_
      have y6 := w6 y (get_mem hy)
      refine ⟨_, rfl, _, rfl, S sigs, y, sign y, rfl, rfl, y6.1, by omega, ?_, S_get (sign_at y6.1 y6.2), hQ _ _ (Same.refl _) (map_get hy)⟩
      rw [S_len, sigs_len]
      omega
    · refine ⟨_, Dl, ((l ++ two (chk l)).map sign).map (fun c => S [c]), rfl, rfl, .inl (SqL.of ?_), join_room _ (by rw [List.length_map]; omega), ?_⟩
      · rw [e5, List.map_map, List.map_map]
        rfl
      · rw [empty_S, join_signs]
        exact k _ (s4.trans s5)

/-! ### _law_written -/
abbrev s44 : Stmt := top 44
theorem sc44 : FnScope ["_law_parts_here", "_law_numbers", "_law_part"] ["_law_parts_here"] (defScope s44) := ⟨rfl, rfl, rfl, by decide +kernel, rfl, by decide +kernel, by decide +kernel⟩
def spLWritten : Sp := fun vs H Q _ => ∃ (a : Addr) (ps : List Pt), vs = [.ref a] ∧ PartsAt H a ps ∧ OK ps ∧ ∀ H', Same H H' → Q (.str (S (text ps))) H'
theorem d_lwritten (A : At K mg "_law_written" s44 ["_law_parts_here"]) (T : Txt mg) (D1 : Def P w K mg base "_law_part_numbers" ["_law_part"] 2 spPartNums) (D2 : Def P w K mg base "_law_sealed" ["_law_numbers"] 2 spSealed) : Def P w K mg base "_law_written" ["_law_parts_here"] 3 spLWritten := by
  obtain ⟨f, fd, F, g, b⟩ := A
  refine ⟨f, fd, ?_, g, F.kp, b⟩
  refine F.ok sc44 (fun vs H Q E h => ?_) (fun cdv A outer s H vs Q E hr h => ?_)
  · obtain ⟨a, ps, rfl, _⟩ := h
    rfl
  · obtain ⟨a, ps, rfl, ⟨fs, ef, pf⟩, ok, k⟩ := h
    have hl1 := ok.len
    have hl2 := ok.flat
    have fl : fs.length = ps.length := by rw [← ef, List.length_map]
    refine ⟨_, pss_cons (ps_set (i := 1) sc44.nd rfl (.inl rfl) (pe_op op_cat (pe_lst (pa_cons pe_int (pa_cons pe_int (pa_cons pe_int pa_nil)))) (pe_callTy call_list_of (by rfl) T.list PyProof.Rows.boot_list (pa_cons (pe_callB call_divmod (by rfl) T.dm PyProof.Rows.boot_divmod (pa_cons (pe_callB call_len_seq (by rfl) T.len PySem.boot_len (pa_cons (pv 0) pa_nil)) (pa_cons pe_int pa_nil))) pa_nil))))
      (pss_cons (ps_for PassesOwn.never rfl (pi_list (pv 0)) (pg_name (i := 2) sc44.nd rfl (.inl rfl))
        (pss_one (ps_set (i := 1) sc44.nd rfl (.inl rfl) (pe_op op_cat (pv 1) (pe_def D1 hr rfl (pa_cons (pv 2) pa_nil))))))
      (pss_one (ps_ret (pe_def D2 hr rfl (pa_cons (pv 1) pa_nil))))), ?_⟩
    refine ⟨(by show 3 ≤ sizeLine; decide), fun l hl => ?_⟩
    have s1 : Same H (upd H l (.lst [.int 38, .int 41, .int 1])) := same_upd hl
    refine ⟨_, rfl, a, _, rfl, .inl (SqL.of (s1 _ _ pf.1)), _, _, rfl, ⟨by decide, by decide⟩, ?_⟩
    rw [List.length_map, fl]
    refine fun q hq => ⟨q, _, rfl, .inr (SqT.of upd_same), fun u hu => ?_⟩
    have hl2' := same_upd (o := .tup [.int ((ps.length : Int) / 64), .int ((ps.length : Int) % 64)]) hq _ _ (upd_same (H := H) (a := l) (o := .lst [.int 38, .int 41, .int 1]))
    have nlu : l ≠ u := ne_of_none hl2' hu
    refine ⟨l, u, _, _, rfl, rfl, (upd_ne nlu).trans hl2', upd_same, (by show 3 + 2 ≤ sizeLine; decide), fun z hz => ?_⟩
    have s4 := ((s1.trans (same_upd (o := .tup [.int ((ps.length : Int) / 64), .int ((ps.length : Int) % 64)]) hq)).trans (same_upd (o := .lst [.int ((ps.length : Int) / 64), .int ((ps.length : Int) % 64)]) hu)).trans (same_upd (o := .lst ([.int 38, .int 41, .int 1] ++ [.int ((ps.length : Int) / 64), .int ((ps.length : Int) % 64)])) hz)
    refine ⟨_, rfl, a, rfl, ⟨_, SqL.of (s4 _ _ pf.1)⟩, for_list (K := K) (a := a) (xs := fs.map fun e => V.ref e.2.1) (fun i σ H' => ∃ z v, σ = [some (.ref a), some (.ref z), v] ∧ Same H H' ∧ H' z = some (.lst ((upto ps i).map V.int)))
      ⟨z, none, rfl, s4, upd_same⟩ (fun i σ H' _ hp => by obtain ⟨z, v, _, kp, _⟩ := hp; exact SqL.of (kp _ _ pf.1)) (fun i x σ H' hx hp => ?_) (fun σ H' hp => ?_)⟩
    · obtain ⟨z, v, rfl, kp, e'⟩ := hp
      obtain ⟨e, he, rfl⟩ := get_map hx
      have pe := pf.2 e (get_mem he)
      have hpi : ps[i]? = some e.1 := by rw [← ef]; exact map_get (f := (·.1)) he
      have ge := ok.good _ (get_mem hpi)
      refine ⟨_, rfl, _, rfl, e.2.1, e.2.2, e.1, rfl, pe.same kp, ge, fun H3 m s3 hm em => ?_⟩
      have f1 := flat_take_le ps (i + 1)
      rw [flat_take hpi, List.length_append] at f1
      refine ⟨z, m, _, _, rfl, rfl, s3 _ _ e', em, ?_, fun y hy => ⟨y, some (.ref e.2.1), rfl, (kp.trans s3).trans (same_upd hy), ?_⟩⟩
      · rw [List.length_map, List.length_map, upto_len]
        exact five' (by omega)
      · rw [upd_same, upto_succ hpi, List.map_append]
    · obtain ⟨z, v, rfl, kp, e'⟩ := hp
      rw [List.length_map, fl, upto_all] at e'
      have nl := nums_len ps
      exact ⟨_, rfl, z, nums ps, rfl, e', nums_six ok.good (by omega), by omega, fun H3 s3 => k _ (kp.trans s3)⟩
end
end Cf
namespace Cf
open PySem L2

/-! ### data, compared -/
abbrev intD (l : List Int) : PyData := .list (l.map PyData.int)
abbrev partD (p : Pt) : PyData := .tuple [.str (S [p.k]), .str (S p.n), intD p.xs]
abbrev partsD (ps : List Pt) : PyData := .list (ps.map partD)
abbrev strD (l : List (List Nat)) : PyData := .list (l.map fun x => .str (S x))
theorem strOk_small {l : List Nat} (h : ∀ c ∈ l, Small c) : PyData.strOk (S l) = true := by
  unfold PyData.strOk S
  rw [List.all_toArray, List.all_eq_true]
  intro c hc
  have := (h c hc).2
  exact decide_eq_true (by omega)
theorem lay_ints : ∀ l : List Int, PyData.canLayAll0 (l.map PyData.int) = true ∧ PyData.depthAll (l.map PyData.int) = 0
  | [] => ⟨rfl, rfl⟩
  | x :: r => by
    have ih := lay_ints r
    simp only [List.map_cons, PyData.canLayAll0, PyData.canLay0, PyData.depthAll, PyData.depth, ih.1, ih.2, Bool.and_self]
    decide
theorem lay_all {ds : List PyData} {n : Nat} (h : ∀ d ∈ ds, d.canLay0 = true ∧ d.depth ≤ n) : PyData.canLayAll0 ds = true ∧ PyData.depthAll ds ≤ n := by
  induction ds with
  | nil => exact ⟨rfl, Nat.zero_le _⟩
  | cons d r ih =>
    have h1 := h d List.mem_cons_self
    have h2 := ih fun x hx => h x (List.mem_cons_of_mem _ hx)
    simp only [PyData.canLayAll0, PyData.depthAll, h1.1, h2.1, Bool.and_self, true_and]
    omega
theorem lay_part {p : Pt} (g : Good p) : (partD p).canLay0 = true ∧ (partD p).depth ≤ 2 := by
  have h1 := strOk_small (l := [p.k]) fun c hc => by rw [List.mem_singleton] at hc; subst hc; exact g.k
  have h2 := strOk_small g.ns
  have h3 := lay_ints p.xs
  simp only [PyData.canLay0, PyData.canLayAll0, PyData.depth, PyData.depthAll, h1, h2, h3.1, h3.2, Bool.and_self, true_and]
  decide
theorem shaped_of {d : PyData} {n : Nat} (h : d.canLay0 = true ∧ d.depth ≤ n) (hn : n ≤ 64) : SeqAt.shaped d = true := by
  show (d.canLay0 && decide (d.depth ≤ 64)) = true
  rw [h.1, decide_eq_true (Nat.le_trans h.2 hn)]
  rfl
theorem lay_list {ds : List PyData} {n : Nat} (h : ∀ d ∈ ds, d.canLay0 = true ∧ d.depth ≤ n) : (PyData.list ds).canLay0 = true ∧ (PyData.list ds).depth ≤ n + 1 := by
  have := lay_all h
  simp only [PyData.canLay0, PyData.depth]
  exact ⟨this.1, by omega⟩
theorem lay_parts {ps : List Pt} (g : ∀ p ∈ ps, Good p) : (partsD ps).canLay0 = true ∧ (partsD ps).depth ≤ 3 :=
  lay_list (n := 2) fun d hd => by
    obtain ⟨p, hp, rfl⟩ := List.mem_map.mp hd
    exact lay_part (g p hp)
theorem shaped_parts {ps : List Pt} (g : ∀ p ∈ ps, Good p) : SeqAt.shaped (partsD ps) = true := shaped_of (lay_parts g) (by decide)
theorem shaped_ints (l : List Int) : SeqAt.shaped (intD l) = true := shaped_of (n := 1) (by
  have := lay_ints l
  simp only [PyData.canLay0, PyData.depth, this.1, this.2]
  decide) (by decide)
theorem shaped_nil : SeqAt.shaped (.list []) = true := by decide +kernel
theorem shaped_eqv {d : PyData} (h : SeqAt.shaped d = true) : PyData.eqv d d = true := SeqAt.eqv_refl d (SeqAt.canLay_of_shaped h)
theorem eqv_nil (ds : List PyData) : PyData.eqv (.list ds) (.list []) = ds.isEmpty := by
  cases ds with
  | nil => rfl
  | cons d r => simp [PyData.eqv, PyData.eqvAll]

section
variable {K : PySem.W.Frag} {H : Hp}
theorem dpall_ints : ∀ l : List Int, DpAll K H (l.map V.int) (l.map PyData.int)
  | [] => .nil
  | x :: r => .cons (.int x) (dpall_ints r)
theorem dp_ints {a : Addr} {l : List Int} (h : SqL K H a (l.map V.int)) : Dp K H (.ref a) (intD l) := .lst h (dpall_ints l)
theorem dp_part {t r : Addr} {p : Pt} (h : PartT H t p r) : Dp K H (.ref t) (partD p) :=
  .tup (SqT.of h.1) (.cons (.str _) (.cons (.str _) (.cons (dp_ints (SqL.of h.2)) .nil)))
theorem dpall_parts : ∀ {fs : List Trip}, (∀ e ∈ fs, PartT H e.2.1 e.1 e.2.2) → DpAll K H (fs.map fun e => V.ref e.2.1) ((fs.map (·.1)).map partD)
  | [], _ => .nil
  | e :: r, h => .cons (dp_part (h e List.mem_cons_self)) (dpall_parts fun x hx => h x (List.mem_cons_of_mem _ hx))
theorem dp_parts {a : Addr} {ps : List Pt} (h : PartsAt H a ps) : Dp K H (.ref a) (partsD ps) := by
  obtain ⟨fs, rfl, h1, h2⟩ := h
  exact .lst (SqL.of h1) (dpall_parts h2)
/-- two lists of the same parts are equal -/
theorem eq_parts {a b : Addr} {ps : List Pt} {Q : VK} (g : ∀ p ∈ ps, Good p) (ha : PartsAt H a ps) (hb : PartsAt H b ps) (q : Q (.bl true) H) : rEqD K (.ref a) (.ref b) H Q := by
  refine ⟨_, _, dp_parts ha, dp_parts hb, shaped_parts g, shaped_parts g, ?_⟩
  rw [shaped_eqv (shaped_parts g)]
  exact q
theorem ne_parts {a b : Addr} {ps : List Pt} {Q : VK} (g : ∀ p ∈ ps, Good p) (ha : PartsAt H a ps) (hb : PartsAt H b ps) (q : Q (.bl false) H) : rNeD K (.ref a) (.ref b) H Q := by
  refine ⟨_, _, dp_parts ha, dp_parts hb, shaped_parts g, shaped_parts g, ?_⟩
  rw [shaped_eqv (shaped_parts g)]
  exact q
theorem ne_ints {a b : Addr} {l : List Int} {Q : VK} (ha : SqL K H a (l.map V.int)) (hb : SqL K H b (l.map V.int)) (q : Q (.bl false) H) : rNeD K (.ref a) (.ref b) H Q := by
  refine ⟨_, _, dp_ints ha, dp_ints hb, shaped_ints l, shaped_ints l, ?_⟩
  rw [shaped_eqv (shaped_ints l)]
  exact q
end
theorem pcd_str : Str.ofString "pcd" = S [112, 99, 100] := by decide +kernel
theorem pcd_at {i : Int} (h0 : 0 ≤ i) (h1 : i < 3) : [112, 99, 100][i.toNat]? = some (pcd i) := by
  have h : ∀ k : _root_.Fin 3, [112, 99, 100][k.val]? = some (pcd ((k.val : Nat) : Int)) := by decide +kernel
  have := h ⟨i.toNat, by omega⟩
  have e : ((i.toNat : Nat) : Int) = i := by omega
  rw [e] at this
  exact this
def eight : List Nat := [97, 98, 99, 100, 101, 102, 103, 104]
theorem eight_str : Str.ofString "abcdefgh" = S eight := by decide +kernel
theorem eight_at {i : Int} (h0 : 0 ≤ i) (h1 : i < 8) : eight[i.toNat]? = some (letter i) := by
  have h : ∀ k : _root_.Fin 8, eight[k.val]? = some (97 + k.val) := by decide +kernel
  exact h ⟨i.toNat, by omega⟩
section
variable {P : Program} {w : World} {K : PySem.W.Frag} {mg : Str → Option Value} {base : Heap} {C : Addr}
/-! ### _law_put_all -/
abbrev s47 : Stmt := top 47
theorem sc47 : FnScope ["_law_parts_here", "_law_folio", "_law_kind", "_law_name_here", "_law_numbers"] ["_law_parts_here"] (defScope s47) := ⟨rfl, rfl, rfl, by decide +kernel, rfl, by decide +kernel, by decide +kernel⟩
def spPutAll (C : Addr) : Sp := fun vs H Q _ => ∃ (a : Addr) (ps : List Pt), vs = [.ref a] ∧ PartsAt H a ps ∧ OK ps ∧ ∀ H' f d, Same H H' → H f = none → H d = none → FolAt C H' f d ps → Q (.ref f) H'
theorem d_putall (A : At K mg "_law_put_all" s47 ["_law_parts_here"]) (T : Txt mg) (L : Cl K mg C) (D1 : MDef P w K mg base C "__init__" ["self"] 1 (spInit C)) (D2 : MDef P w K mg base C "put_part" ["self", "part"] 5 (spPut C)) :
    Def P w K mg base "_law_put_all" ["_law_parts_here"] 6 (spPutAll C) := by
  obtain ⟨f, fd, F, g, b⟩ := A
  refine ⟨f, fd, ?_, g, F.kp, b⟩
  refine F.ok sc47 (fun vs H Q E h => ?_) (fun cdv A outer s H vs Q E hr h => ?_)
  · obtain ⟨a, ps, rfl, _⟩ := h
    rfl
  · obtain ⟨a, ps, rfl, ⟨fs, ef, pf⟩, ok, k⟩ := h
    have hr2 : Room 2 _ := hr.mono (by decide)
    have hl1 := ok.len
    have hl2 := ok.flat
    have fl : fs.length = ps.length := by rw [← ef, List.length_map]
    refine ⟨_, pss_cons (ps_set (i := 1) sc47.nd rfl (.inl rfl) (pe_mk0 D1 L hr2 rfl))
      (pss_cons (ps_for PassesOwn.never rfl (pi_list (pv 0)) (pg_tup rfl (pgs_cons (pg_name (i := 2) sc47.nd rfl (.inl rfl)) (pgs_cons (pg_name (i := 3) sc47.nd rfl (.inl rfl)) (pgs_cons (pg_name (i := 4) sc47.nd rfl (.inl rfl)) pgs_nil))))
        (pss_one (ps_expr (pe_mdef D2 (pv 1) L.cl hr (pa_cons (pe_tup (pa_cons (pv 2) (pa_cons (pv 3) (pa_cons (pe_callTy call_list_of (by rfl) T.list PyProof.Rows.boot_list (pa_cons (pv 4) pa_nil)) pa_nil)))) pa_nil)))))
      (pss_one (ps_ret (pv 1)))), ?_⟩
    intro x dx nx ndx nex
    have s4 : Same H (upd (upd H dx (.own x)) x (.ins C dx [])) := fun b o e => (upd_ne (ne_of_none e nx)).trans ((upd_ne (ne_of_none e ndx)).trans e)
    refine ⟨x, dx, rfl, upd_same, fun d H5 hd FA kp => ⟨rfl, ?_⟩⟩
    have d3 : H d = none := free_of s4 hd
    have s5 : Same H H5 := fun b o e => kp b o (s4 b o e) (ne_of_none e nx)
    refine ⟨_, rfl, a, rfl, ⟨_, SqL.of (s5 _ _ pf.1)⟩, for_list (K := K) (a := a) (xs := fs.map fun e => V.ref e.2.1) (fun i σ H' => ∃ v2 v3 v4, σ = [some (.ref a), some (.ref x), v2, v3, v4] ∧ Same H H' ∧ FolAt C H' x d (ps.take i))
      ⟨none, none, none, rfl, s5, FA⟩ (fun i σ H' _ hp => by obtain ⟨_, _, _, _, kp, _⟩ := hp; exact SqL.of (kp _ _ pf.1)) (fun i y σ H' hx hp => ?_) (fun σ H' hp => ?_)⟩
    · obtain ⟨v2, v3, v4, rfl, s6, FB⟩ := hp
      obtain ⟨e, he, rfl⟩ := get_map hx
      have pe := (pf.2 e (get_mem he)).same s6
      have hpi : ps[i]? = some e.1 := by rw [← ef]; exact map_get (f := (·.1)) he
      have ge := ok.good _ (get_mem hpi)
      refine ⟨e.2.1, _, rfl, SqT.of pe.1, rfl, _, _, rfl, _, _, rfl, _, _, rfl, rfl, ?_⟩
      obtain ⟨dy, es, _, f1, f2, f3⟩ := id FB.ex
      refine ⟨_, rfl, x, dy, _, rfl, f1, flds_no _ _ (by decide +kernel) (by decide +kernel), _, rfl, _, rfl, _, rfl, e.2.2, _, rfl, .inl (SqL.of pe.2), fun c hc => ⟨(by show 3 ≤ sizeLine; decide), fun u hu => ?_⟩⟩
      have s7 : Same H' (upd H' c (.lst (e.1.xs.map V.int))) := same_upd hc
      have s8 := s7.trans (same_upd (o := .tup (tupV e.1 c)) hu)
      have ncu : c ≠ u := ne_of_none upd_same hu
      have tk : ps.take (i + 1) = ps.take i ++ [e.1] := by rw [List.take_add_one, hpi]; rfl
      have hnew : Cf.key e.1 ∉ (ps.take i).map Cf.key := by
        have nd : ((ps.take (i + 1)).map Cf.key).Nodup := by
          rw [List.map_take]
          exact ok.nd.sublist (List.take_sublist _ _)
        rw [tk, List.map_append] at nd
        exact fun hm => (List.nodup_append.mp nd).2.2 _ hm _ (List.mem_singleton.mpr rfl) rfl
      have fz := flat_take_le ps (i + 1)
      rw [tk, flat_snoc, List.length_append] at fz
      refine ⟨x, d, u, c, ps.take i, e.1, rfl, FB.same s8, ⟨upd_same, (upd_ne ncu).trans upd_same⟩, ge, hnew, ?_, ?_, fun H9 k9 F9 _ => ?_⟩
      · unfold size
        omega
      · rw [List.length_take]
        omega
      · refine ⟨some (.str (S [e.1.k])), some (.str (S e.1.n)), some (.ref e.2.2), rfl, keep_same k9 (s6.trans s8) nx d3, by rw [tk]; exact F9⟩
    · obtain ⟨v2, v3, v4, rfl, s6, FB⟩ := hp
      rw [List.length_map, fl, List.take_length] at FB
      exact ⟨_, rfl, k _ x d s6 nx d3 FB⟩

/-! ### _law_many_parts -/
abbrev s49 : Stmt := top 49
theorem sc49 : FnScope ["_law_cell", "_law_names", "_law_k", "_law_name_here"] ["_law_cell"] (defScope s49) := ⟨rfl, rfl, rfl, by decide +kernel, rfl, by decide +kernel, by decide +kernel⟩
def spMany : Sp := fun vs H Q _ => ∃ (c : Int), vs = [.int c] ∧ ∀ H' l, Same H H' → H l = none → PartsAt H' l (many c) → Q (.ref l) H'
theorem many_len (c : Int) : (many c).length = (64 + c % 7).toNat := by unfold many; rw [List.length_map, List.length_range]
theorem mnames_len (c : Int) : (mnames c).length = (64 + c % 7).toNat := by unfold mnames; rw [List.length_map, List.length_range]
theorem d_many (A : At K mg "_law_many_parts" s49 ["_law_cell"]) (T : Txt mg) : Def P w K mg base "_law_many_parts" ["_law_cell"] 1 spMany := by
  obtain ⟨f, fd, F, g, b⟩ := A
  refine ⟨f, fd, ?_, g, F.kp, b⟩
  refine F.ok sc49 (fun vs H Q E h => ?_) (fun cdv A outer s H vs Q E hr h => ?_)
  · obtain ⟨c, rfl, _⟩ := h
    rfl
  · obtain ⟨c, rfl, k⟩ := h
    refine ⟨_, pss_cons (ps_setLc (i := 1) (own := [("_law_k", 2)]) (g := gName 2) rfl sc49.nd rfl rfl (sw_true rfl rfl rfl (by decide +kernel)) (pi_range1 (by rfl) T.range (pa_cons (pe_op op_add pe_int (pe_op op_mod (pv 0) pe_int)) pa_nil)) (blkOk_by (N := ["_law_cell", "_law_names", "_law_k", "_law_name_here"]) (sc := defScope s49) (by decide +kernel))
        (fun _ _ _ _ _ => pg_name (i := 2) sc49.nd rfl (Or.inl rfl)) (fun _ _ _ _ _ => pts_nil)
        (fun _ _ _ _ _ => pe_op op_add_str (pe_item_str pe_str (pe_op op_mod (pe_op op_fdiv (pv 2) pe_int) pe_int) (fun _ _ => rfl)) (pe_item_str pe_str (pe_op op_mod (pe_op op_add (pe_op op_fdiv (pv 2) pe_int) (pe_op op_fdiv (pv 0) pe_int)) pe_int) (fun _ _ => rfl))))
      (pss_one (ps_ret (pe_lc (own := [("_law_k", 2), ("_law_name_here", 3)]) (g := gTup K 2 (gCons (gName 2) (gCons (gName 3) gNil))) rfl sc49.nd (pi_enum (by rfl) T.enum (pa_cons (pv 1) pa_nil)) (blkOk_by (N := ["_law_cell", "_law_names", "_law_k", "_law_name_here"]) (sc := defScope s49) (by decide +kernel))
        (fun _ _ _ _ _ => pg_tup rfl (pgs_cons (pg_name (i := 2) sc49.nd rfl (Or.inl rfl)) (pgs_cons (pg_name (i := 3) sc49.nd rfl (Or.inl rfl)) pgs_nil))) (fun _ _ _ _ _ => pts_nil)
        (fun _ _ _ _ _ => pe_tup (pa_cons (pe_item_str pe_str (pe_op op_mod (pv 2) pe_int) (fun _ _ => rfl)) (pa_cons (pv 3) (pa_cons (pe_lst pa_nil) pa_nil))))))), ?_⟩
    refine ⟨_, rfl, _, _, rfl, rfl, (by show (0 : Int) < 7; decide), _, _, rfl, rfl, _, rfl, by omega, by omega, fun nl hnl => ?_⟩
    refine lc_map ((mnames c).map fun x => V.str (S x)) hnl (by rw [List.length_map, mnames_len]; exact five' (by omega)) (fun i H1 hi s1 => ?_) (fun H1 s1 => ?_) (fun i x H1 H2 hi s1 hy G hG => ?_) (fun H1 s1 e1 => ?_)
    · rw [List.length_map, mnames_len] at hi
      exact hi
    · rw [List.length_map, mnames_len]
      exact Nat.le_refl _
    · obtain ⟨rfl, rfl⟩ := hy
      rw [List.length_map, mnames_len] at hi
      refine hG _ _ rfl fun Q2 hQ => ?_
      rw [Int.zero_add]
      have h1 : 0 ≤ ((i : Nat) : Int) / 3 % 8 ∧ ((i : Nat) : Int) / 3 % 8 < 8 := by omega
      have h2 : 0 ≤ (((i : Nat) : Int) / 24 + c / 7) % 8 ∧ (((i : Nat) : Int) / 24 + c / 7) % 8 < 8 := by omega
      refine ⟨_, rfl, _, _, rfl, rfl, ⟨by decide, by decide⟩, _, _, rfl, rfl, (by show (0 : Int) < 8; decide), ?_⟩
      rw [eight_str]
      refine ⟨S eight, _, letter (((i : Nat) : Int) / 3 % 8), rfl, rfl, h1.1, by omega, h1.2, S_get (eight_at h1.1 h1.2), ?_⟩
      refine ⟨_, rfl, _, _, rfl, rfl, ⟨by decide, by decide⟩, _, rfl, _, _, rfl, rfl, ⟨by decide, by decide⟩, _, _, rfl, rfl, _, _, rfl, rfl, (by show (0 : Int) < 8; decide), ?_⟩
      refine ⟨S eight, _, letter ((((i : Nat) : Int) / 24 + c / 7) % 8), rfl, rfl, h2.1, by omega, h2.2, S_get (eight_at h2.1 h2.2), ?_⟩
      refine ⟨_, _, rfl, rfl, (by show 1 + 1 ≤ sizeLine; decide), hQ _ _ (Same.refl _) ?_⟩
      refine (map_get (map_get (range_get hi))).trans ?_
      refine congrArg (fun z => some (V.str z)) ?_
      exact (S_app [letter (((i : Nat) : Int) / 3 % 8)] [letter ((((i : Nat) : Int) / 24 + c / 7) % 8)]).symm
    have nlH : H nl = none := hnl
    refine ⟨_, rfl, nl, _, rfl, SqL.of e1, fun Dl hD => ?_⟩
    refine lc_turns (many c).length (fun i H2 => Same H1 H2 ∧ ∃ fs : List Trip, fs.map (·.1) = (many c).take i ∧ PartsE H2 Dl fs ∧ ∀ e ∈ fs, e.2.2 ≠ Dl)
      ⟨same_upd hD, [], rfl, ⟨upd_same, fun e he => nomatch he⟩, fun e he => nomatch he⟩ (fun i H2 hi hp => ?_) (fun H2 hp => ?_) (fun i x H2 H3 hi hp hy => ?_) (fun H2 hp => ?_)
    · rw [many_len, ← mnames_len] at hi
      obtain ⟨x, hx⟩ := lt_get hi
      exact ⟨_, _, SqL.of (hp.1 _ _ e1), map_get hx⟩
    · exact ⟨_, SqL.of (hp.1 _ _ e1), by rw [List.length_map, mnames_len, many_len]; exact Nat.le_refl _⟩
    · obtain ⟨s2, fs, ef, pf, ff⟩ := hp
      obtain ⟨t, x, rfl, ht, rfl, hx⟩ := hy
      rw [many_len] at hi
      have hx' := hx _ (SqL.of (s2 _ _ e1))
      have hm : ((mnames c).map fun x => V.str (S x))[i]? = some (.str (S (mname c i))) := map_get (map_get (range_get hi))
      rw [hm] at hx'
      cases hx'
      refine ⟨t, _, rfl, SqT.of upd_same, rfl, _, _, rfl, _, _, rfl, rfl, rfl, ?_⟩
      unfold tYes
      refine iteT ?_
      have h1 : 0 ≤ ((i : Nat) : Int) % 3 ∧ ((i : Nat) : Int) % 3 < 3 := by omega
      refine ⟨_, rfl, _, _, rfl, rfl, (by show (0 : Int) < 3; decide), ?_⟩
      rw [pcd_str]
      refine ⟨S [112, 99, 100], _, pcd (((i : Nat) : Int) % 3), rfl, rfl, h1.1, by omega, h1.2, S_get (pcd_at h1.1 h1.2), ?_⟩
      refine ⟨_, rfl, Nat.zero_le _, fun r hr2 => ⟨(by show 3 ≤ sizeLine; decide), fun u hu => ?_⟩⟩
      have s3 : Same H2 (upd H2 t (.tup [.int ((i : Nat) : Int), .str (S (mname c i))])) := same_upd ht
      have s4 := s3.trans (same_upd (o := .lst []) hr2)
      have s5 := s4.trans (same_upd (o := .tup (tupV (mpart c i) r)) hu)
      have nru : r ≠ u := ne_of_none upd_same hu
      have hr0 : H2 r = none := free_of s3 hr2
      have nrD : r ≠ Dl := fun z => by rw [z, pf.1] at hr0; cases hr0
      have hl : fs.length ≤ 1000 := by
        have := congrArg List.length ef
        rw [List.length_map, List.length_take, many_len] at this
        omega
      have eD := s5 _ _ pf.1
      refine ⟨_, eD, by rw [List.length_map]; exact small1000 hl, put_same (s2.trans s5) hD, fs ++ [(mpart c i, u, r)], ?_, ⟨?_, fun x hx => ?_⟩, fun x hx => ?_⟩
      · rw [List.map_append, ef, List.take_add_one, show (many c)[i]? = some (mpart c i) from map_get (range_get hi)]
        rfl
      · rw [upd_same, List.map_append]
        rfl
      · rcases List.mem_append.mp hx with hx | hx
        · have p5 := (pf.2 x hx).same s5
          exact ⟨(upd_ne (ne_of p5.1 eD (by intro z; cases z))).trans p5.1, (upd_ne (ff x hx)).trans p5.2⟩
        · rw [List.mem_singleton] at hx
          subst hx
          have nuD : u ≠ Dl := ne_of (upd_same (o := .tup (tupV (mpart c i) r))) eD (by intro z; cases z)
          exact ⟨(upd_ne nuD).trans upd_same, (upd_ne nrD).trans ((upd_ne nru).trans upd_same)⟩
      · rcases List.mem_append.mp hx with hx | hx
        · exact ff x hx
        · rw [List.mem_singleton] at hx
          subst hx
          exact nrD
    · obtain ⟨s2, fs, ef, pf, ff⟩ := hp
      rw [List.take_length] at ef
      exact k _ Dl (s1.trans s2) (free_of s1 hD) ⟨fs, ef, pf⟩
end
end Cf
namespace Cf
open PySem L2
section
variable {P : Program} {w : World} {K : PySem.W.Frag} {mg : Str → Option Value} {base : Heap} {C : Addr}
theorem cut2 (p : Pt) (r : Addr) : cutV (tupV p r) none (some 2) = [.str (S [p.k]), .str (S p.n)] := rfl
theorem cut2_not (p : Pt) (r : Addr) : ¬ (HT.sIx (tupV p r).length 0 none = 0 ∧ HT.sIx (tupV p r).length (tupV p r).length (some 2) = (tupV p r).length) := by
  show ¬ (HT.sIx 3 0 none = 0 ∧ HT.sIx 3 3 (some 2) = 3)
  decide
theorem eqv_keys (p q : Pt) : PyData.eqv (.tuple [.str (S [p.k]), .str (S p.n)]) (.tuple [.str (S [q.k]), .str (S q.n)]) = decide (Cf.key p = Cf.key q) := by
  simp only [PyData.eqv, PyData.eqvAll, Bool.and_true]
  by_cases h : Cf.key p = Cf.key q
  · have h1 : p.k = q.k := congrArg (·.1) h
    have h2 : p.n = q.n := congrArg (·.2) h
    rw [h1, h2, decide_eq_true h, beq_self_eq_true, beq_self_eq_true]
    rfl
  · rw [decide_eq_false h]
    by_cases h1 : S [p.k] = S [q.k]
    · by_cases h2 : S p.n = S q.n
      · refine absurd ?_ h
        have e1 := S_inj h1
        injection e1 with e1
        have e2 := S_inj h2
        unfold Cf.key
        rw [e1, e2]
      · rw [beq_false_of_ne h2, Bool.and_false]
    · rw [beq_false_of_ne h1, Bool.false_and]
theorem shaped_key {p : Pt} (g : Good p) : SeqAt.shaped (.tuple [.str (S [p.k]), .str (S p.n)]) = true := by
  have h1 := strOk_small (l := [p.k]) fun c hc => by rw [List.mem_singleton] at hc; subst hc; exact g.k
  have h2 := strOk_small g.ns
  refine shaped_of (n := 1) ?_ (by decide)
  simp only [PyData.canLay0, PyData.canLayAll0, PyData.depth, PyData.depthAll, h1, h2, Bool.and_self, true_and]
  decide
def sameKey (p : Pt) (e : Trip) : Bool := decide (Cf.key e.1 = Cf.key p)
theorem filt_all (p : Pt) : ∀ fs : List Trip, (((fs.filter (sameKey p)).map (·.1)).map partD).isEmpty = ((fs.map (·.1)).all fun q => decide (Cf.key q ≠ Cf.key p))
  | [] => rfl
  | e :: r => by
    rw [List.filter_cons, List.map_cons, List.all_cons]
    by_cases h : Cf.key e.1 = Cf.key p
    · rw [if_pos (show sameKey p e = true from decide_eq_true h), decide_eq_false (not_not_intro h), Bool.false_and]
      rfl
    · rw [if_neg (show ¬ sameKey p e = true from fun z => h (of_decide_eq_true z)), decide_eq_true h, Bool.true_and]
      exact filt_all p r
theorem filt_take (p : Pt) {fs : List Trip} {i : Nat} {e : Trip} (h : fs[i]? = some e) : (fs.take (i + 1)).filter (sameKey p) = if Cf.key e.1 = Cf.key p then (fs.take i).filter (sameKey p) ++ [e] else (fs.take i).filter (sameKey p) := by
  rw [List.take_add_one, h, List.filter_append]
  show _ ++ ([e] : List Trip).filter _ = _
  rw [List.filter_cons, List.filter_nil]
  by_cases hk : Cf.key e.1 = Cf.key p
  · rw [if_pos hk, if_pos (show sameKey p e = true from decide_eq_true hk)]
  · rw [if_neg hk, if_neg (show ¬ sameKey p e = true from fun z => hk (of_decide_eq_true z)), List.append_nil]

/-! ### _law_parts -/
abbrev N45 : List Str := ["_law_script", "_law_number", "_law_k", "_law_names", "_law_parts_here", "_law_cell", "_law_many", "_law_part", "_law_j", "_law_one"]
abbrev s45 : Stmt := top 45
theorem sc45 : FnScope N45 ["_law_script"] (defScope s45) := ⟨rfl, rfl, rfl, by decide +kernel, rfl, by decide +kernel, by decide +kernel⟩
def spLParts (K : PySem.W.Frag) : Sp := fun vs H Q _ => ∃ (a : Addr) (ns : List Int), vs = [.ref a] ∧ SqL K H a (ns.map V.int) ∧ ∀ H' l, Same H H' → H l = none → PartsAt H' l (lparts ns) → Q (.ref l) H'
theorem d_lparts (A : At K mg "_law_parts" s45 ["_law_script"]) (T : Txt mg) (D1 : Def P w K mg base "_law_mixed" ["_law_cell", "_law_k"] 1 spMixed) (D2 : Def P w K mg base "_law_cell_at" ["_law_script", "_law_k"] 1 (spCell K)) (D3 : Def P w K mg base "_law_name" ["_law_cell"] 2 spLName) :
    Def P w K mg base "_law_parts" ["_law_script"] 3 (spLParts K) := by
  obtain ⟨f, fd, F, g, b⟩ := A
  refine ⟨f, fd, ?_, g, F.kp, b⟩
  refine F.ok sc45 (fun vs H Q E h => ?_) (fun cdv A outer s H vs Q E hr h => ?_)
  · obtain ⟨a, ns, rfl, _⟩ := h
    rfl
  · obtain ⟨a, ns, rfl, hS, k⟩ := h
    have hr1 : Room 1 _ := hr.mono (by decide)
    refine ⟨_, pss_cons (ps_set (i := 1) sc45.nd rfl (.inr rfl) (pe_def D1 hr1 rfl (pa_cons (pe_def D2 hr1 rfl (pa_cons (pv 0) (pa_cons pe_int pa_nil))) (pa_cons pe_int pa_nil))))
      (pss_cons (ps_setLc (i := 3) (own := [("_law_k", 2)]) (g := gName 2) rfl sc45.nd rfl rfl (sw_true rfl rfl rfl (by decide +kernel)) (pi_range1 (by rfl) T.range (pa_cons pe_int pa_nil)) (blkOk_by (N := N45) (sc := defScope s45) (by decide +kernel))
        (fun _ _ _ _ _ => pg_name (i := 2) sc45.nd rfl (Or.inl rfl)) (fun _ _ _ _ _ => pts_nil)
        (fun _ _ _ _ _ => pe_def D3 hr rfl (pa_cons (pe_def D1 hr1 rfl (pa_cons (pv 1) (pa_cons (pe_op op_add pe_int (pv 2)) pa_nil))) pa_nil)))
      (pss_cons (ps_set (i := 4) sc45.nd rfl (.inl rfl) (pe_lst pa_nil))
      (pss_cons (ps_for PassesOwn.never rfl (pi_range1 (by rfl) T.range (pa_cons (pe_op op_mod (pv 1) pe_int) pa_nil)) (pg_name (i := 2) sc45.nd rfl (.inl rfl))
        (pss_cons (ps_set (i := 5) sc45.nd rfl (.inr rfl) (pe_def D1 hr1 rfl (pa_cons (pe_def D2 hr1 rfl (pa_cons (pv 0) (pa_cons (pe_op op_add pe_int (pv 2)) pa_nil))) (pa_cons (pv 2) pa_nil))))
        (pss_cons (ps_set (i := 6) sc45.nd rfl (.inl rfl) (pe_op op_mod (pv 5) pe_int))
        (pss_cons (ps_if (pt_cmpR op_eq (pe_op op_mod (pe_op op_fdiv (pv 5) pe_int) pe_int) pe_int (nomark _)) (pss_one (ps_set (i := 6) sc45.nd rfl (.inl rfl) (pe_op op_add pe_int (pe_op op_mod (pe_op op_fdiv (pv 5) pe_int) pe_int)))) pss_nil)
        (pss_cons (ps_set (i := 7) sc45.nd rfl (.inr rfl) (pe_tup (pa_cons (pe_item_str pe_str (pe_op op_mod (pe_op op_fdiv (pv 5) pe_int) pe_int) (fun _ _ => rfl)) (pa_cons (pe_ix ix_list (pv 3) (pe_op op_mod (pe_op op_fdiv (pv 5) pe_int) pe_int) (fun _ _ => rfl)) (pa_cons
            (pe_lc (own := [("_law_j", 8)]) (g := gName 8) rfl sc45.nd (pi_range1 (by rfl) T.range (pa_cons (pv 6) pa_nil)) (blkOk_by (N := N45) (sc := defScope s45) (by decide +kernel))
              (fun _ _ _ _ _ => pg_name (i := 8) sc45.nd rfl (Or.inl rfl)) (fun _ _ _ _ _ => pts_nil)
              (fun _ _ _ _ _ => pe_op op_mod (pe_op op_fdiv (pe_def D1 hr1 rfl (pa_cons (pv 5) (pa_cons (pv 8) pa_nil))) pe_int) pe_int)) pa_nil)))))
        (pss_one (ps_if (pt_cmpR (op_eqD hr.units) (pe_lc (own := [("_law_one", 9)]) (g := gName 9) (tt := tTest (tOp (rEqD K) (tSl (rSlT K) (tVar 9) tNoPart (tPart (tC (.int 2)))) (tSl (rSlT K) (tVar 7) tNoPart (tPart (tC (.int 2)))))) rfl sc45.nd (pi_list (pv 4)) (blkOk_by (N := N45) (sc := defScope s45) (by decide +kernel))
              (fun _ _ _ _ _ => pg_name (i := 9) sc45.nd rfl (Or.inl rfl)) (fun _ _ _ _ _ => pts_one (pt_cmpR (op_eqD hr.units) (pe_slice sl_tup (pv 9) po_none (po_some pe_int)) (pe_slice sl_tup (pv 7) po_none (po_some pe_int)) (nomark _)))
              (fun _ _ _ _ _ => pv 9)) (pe_lst pa_nil) (nomark _))
            (pss_one (ps_expr (pe_bm PySem.F.plainAttrs_list PySem.F.slot_list_append PySem.F.type_list_append mt_append (pv 4) (pa_cons (pv 7) pa_nil)))) pss_nil)))))))
      (pss_one (ps_ret (pv 4)))))), ?_⟩
    -- number
    refine ⟨_, rfl, a, ns, 0, rfl, hS, _, 0, rfl, ?_⟩
    have hm : mixed (cellAt ns 0) 0 = lnum ns := rfl
    rw [hm]
    -- names
    refine ⟨3, rfl, by decide, by decide, fun nl hnl => ?_⟩
    refine lc_map ((lnames (lnum ns)).map fun x => V.str (S x)) hnl (by rw [List.length_map, lnames_len]; decide) (fun i H1 hi s1 => ?_) (fun H1 s1 => ?_) (fun i x H1 H2 hi s1 hy G hG => ?_) (fun H1 s1 e1 => ?_)
    · rw [List.length_map, lnames_len] at hi
      exact hi
    · rw [List.length_map, lnames_len]
      exact Nat.le_refl _
    · obtain ⟨rfl, rfl⟩ := hy
      rw [List.length_map, lnames_len] at hi
      refine hG _ _ rfl fun Q2 hQ => ?_
      refine ⟨_, rfl, _, rfl, _, _, rfl, rfl, _, _, rfl, _, rfl, fun H3 s3 => ?_⟩
      rw [Int.zero_add]
      exact hQ _ _ s3 (map_get (map_get (range_get hi)))
    have hnlH : H nl = none := hnl
    -- parts_here
    refine ⟨Nat.zero_le _, fun pl hpl => ?_⟩
    have s2 : Same H (upd H1 pl (.lst [])) := s1.trans (same_upd hpl)
    have e2 : upd H1 pl (.lst []) nl = some (.lst ((lnames (lnum ns)).map fun x => V.str (S x))) := same_upd hpl _ _ e1
    have e3 : upd H1 pl (.lst []) pl = some (.lst []) := upd_same
    have pl0 : H pl = none := free_of s1 hpl
    have npn : nl ≠ pl := ne_of_none e1 hpl
    generalize upd H1 pl (.lst []) = H2 at *
    -- the loop
    refine ⟨_, rfl, _, _, rfl, rfl, (by show (0 : Int) < 7; decide), _, rfl, by omega, by omega, ?_⟩
    have nm3 := lnames_len (lnum ns)
    have nmk := lnames_ok (lnum ns)
    have lup := fun i => lupto_ok ns nm3 nmk i
    refine for_range (lo := 0) (n := (lnum ns % 7).toNat) (fun i σ H' => ∃ (v2 v5 v6 v7 : Option V) (fs : List Trip), σ = [some (.ref a), some (.int (lnum ns)), v2, some (.ref nl), some (.ref pl), v5, v6, v7, none, none] ∧ Same H H' ∧ H' nl = some (.lst ((lnames (lnum ns)).map fun x => V.str (S x))) ∧
        fs.map (·.1) = lupto ns (lnames (lnum ns)) i ∧ PartsE H' pl fs ∧ ∀ e ∈ fs, e.2.2 ≠ pl)
      ⟨none, none, none, none, [], rfl, s2, e2, rfl, ⟨e3, fun e he => nomatch he⟩, fun e he => nomatch he⟩ (fun i σ H' hi hp => ?_) (fun σ H' hp => ?_)
    · obtain ⟨v2, v5, v6, v7, fs, rfl, s3, en, ef, pf, ff⟩ := hp
      have hl := (lup i).2
      rw [← ef, List.length_map] at hl
      -- cell
      refine ⟨_, rfl, _, rfl, _, _, rfl, rfl, a, ns, 1 + i, ?_, s3.seq hS, _, rfl, cellAt ns (1 + i), (i : Int), ?_, ?_⟩
      · show [V.ref a, V.int (1 + (0 + ((i : Nat) : Int)))] = _
        rw [show 1 + (0 + ((i : Nat) : Int)) = ((1 + i : Nat) : Int) by omega]
      · rw [Int.zero_add]
        rfl
      rw [show mixed (cellAt ns (1 + i)) (i : Int) = lcell ns i from rfl]
      have c0 : 0 ≤ lcell ns i := mixed_nn _ _
      have cg := (lpart_good nm3 nmk (lcell ns i))
      have lb := lmany_b (lcell ns i)
      generalize hc : lcell ns i = c at *
      refine ⟨_, rfl, _, _, rfl, rfl, (by show (0 : Int) < 10; decide), ?_⟩
      refine ⟨_, rfl, _, _, rfl, rfl, ⟨by decide, by decide⟩, _, _, rfl, rfl, (by show (0 : Int) < 40; decide), rfl, _, rfl, ite2 (fun e => ?br1) (fun e => ?br2)⟩
      case' br1 =>
        refine ⟨_, rfl, _, _, rfl, rfl, ⟨by decide, by decide⟩, _, _, rfl, rfl, (by show (0 : Int) < 200; decide), _, _, rfl, rfl, ?_⟩
        have em : (fun i j : Int => V.int (i + j)) 60 (c / 400 % 200) = V.int (lmany c) := by
          show V.int (60 + c / 400 % 200) = _
          unfold lmany
          rw [if_pos (V.int.inj (of_decide_eq_true e))]
        rw [em]
      case' br2 =>
        have em : (fun i j : Int => V.int (i % j)) c 10 = V.int (lmany c) := by
          show V.int (c % 10) = _
          unfold lmany
          rw [if_neg fun z => e (decide_eq_true (congrArg V.int z))]
        rw [em]
      all_goals
        have h7 : 0 ≤ c / 7 % 3 ∧ c / 7 % 3 < 3 := by omega
        refine ⟨_, rfl, _, _, rfl, rfl, ⟨by decide, by decide⟩, _, _, rfl, rfl, (by show (0 : Int) < 3; decide), ?_⟩
        rw [pcd_str]
        refine ⟨S [112, 99, 100], _, pcd (c / 7 % 3), rfl, rfl, h7.1, by omega, h7.2, S_get (pcd_at h7.1 h7.2), ?_⟩
        have hj : (c / 21 % 3).toNat < (lnames (lnum ns)).length := by rw [nm3]; omega
        have hg : (lnames (lnum ns))[(c / 21 % 3).toNat]? = some ((lnames (lnum ns)).getD (c / 21 % 3).toNat []) := by
          rw [List.getD_eq_getElem?_getD, List.getElem?_eq_getElem hj]
          rfl
        refine ⟨_, rfl, _, rfl, _, _, rfl, rfl, ⟨by decide, by decide⟩, _, _, rfl, rfl, (by show (0 : Int) < 3; decide), nl, _, _, _, rfl, rfl, SqL.of en, at_of (by omega) (map_get hg), ?_⟩
        refine ⟨_, rfl, _, rfl, by omega, by omega, fun xl hxl => ?_⟩
        refine lc_map ((lxs c).map V.int) hxl (by rw [List.length_map, lxs_len]; exact five' (by omega)) (fun j H3 hj s4 => ?_) (fun H3 s4 => ?_) (fun j x H3 H4 hj s4 hy G hG => ?_) (fun H3 s4 e4 => ?_)
        · rw [List.length_map, lxs_len] at hj
          exact hj
        · rw [List.length_map, lxs_len]
          exact Nat.le_refl _
        · obtain ⟨rfl, rfl⟩ := hy
          rw [List.length_map, lxs_len] at hj
          refine hG _ _ rfl fun Q2 hQ => ?_
          refine ⟨_, rfl, _, rfl, c, _, rfl, _, _, rfl, rfl, ⟨by decide, by decide⟩, _, _, rfl, rfl, (by show (0 : Int) < 64; decide), ?_⟩
          rw [Int.zero_add]
          exact hQ _ _ (Same.refl _) (map_get (map_get (range_get hj)))
        refine ⟨(by show 3 ≤ sizeLine; decide), fun u hu => ?_⟩
        have sp : Same H3 (upd H3 u (.tup (tupV (lpart (lnames (lnum ns)) c) xl))) := same_upd hu
        have s5 := s4.trans sp
        have nxu : xl ≠ u := ne_of_none e4 hu
        have pt : PartT (upd H3 u (.tup (tupV (lpart (lnames (lnum ns)) c) xl))) u (lpart (lnames (lnum ns)) c) xl := ⟨upd_same, (upd_ne nxu).trans e4⟩
        have en5 := s5 _ _ en
        have pf5 := pf.same s5
        have s35 := s3.trans s5
        have nxp : xl ≠ pl := fun z => by rw [z, pf.1] at hxl; cases hxl
        -- the filter
        refine ⟨_, rfl, pl, rfl, ⟨_, SqL.of pf5.1⟩, fun Dl hD => ?_⟩
        refine lc_turns fs.length (fun i H2 => Same (upd H3 u (.tup (tupV (lpart (lnames (lnum ns)) c) xl))) H2 ∧ H2 Dl = some (.lst (((fs.take i).filter (sameKey (lpart (lnames (lnum ns)) c))).map fun e => V.ref e.2.1)))
          ⟨same_upd hD, upd_same⟩ (fun j H5 hj hp => ?_) (fun H5 hp => ?_) (fun j x H5 H6 hj hp hy => ?_) (fun H5 hp => ?_)
        · obtain ⟨x, hx⟩ := lt_get hj
          exact ⟨_, _, SqL.of (hp.1 _ _ pf5.1), map_get hx⟩
        · exact ⟨_, SqL.of (hp.1 _ _ pf5.1), by rw [List.length_map]; exact Nat.le_refl _⟩
        · obtain ⟨rfl, hx⟩ := hy
          obtain ⟨e', he', rfl⟩ := get_map (hx _ (SqL.of (hp.1 _ _ pf5.1)))
          have pe := (pf5.2 e' (get_mem he')).same hp.1
          have pt6 := pt.same hp.1
          have ge : Good e'.1 := (lup i).1.good _ (by rw [← ef]; exact List.mem_map.mpr ⟨e', get_mem he', rfl⟩)
          refine ⟨rfl, ?_⟩
          refine ⟨_, rfl, _, rfl, e'.2.1, _, rfl, SqT.of pe.1, cut2_not _ _, fun q1 hq1 => ?_⟩
          have s6 : Same H6 (upd H6 q1 (.tup [.str (S [e'.1.k]), .str (S e'.1.n)])) := same_upd hq1
          refine ⟨_, rfl, _, rfl, u, _, rfl, SqT.of (s6 _ _ pt6.1), cut2_not _ _, fun q2 hq2 => ?_⟩
          have s7 := s6.trans (same_upd (o := .tup [.str (S [(lpart (lnames (lnum ns)) c).k]), .str (S (lpart (lnames (lnum ns)) c).n)]) hq2)
          have nq : q1 ≠ q2 := ne_of_none upd_same hq2
          refine ⟨_, _, .tup (SqT.of ((upd_ne nq).trans upd_same)) (.cons (.str _) (.cons (.str _) .nil)), .tup (SqT.of upd_same) (.cons (.str _) (.cons (.str _) .nil)), shaped_key ge, shaped_key cg.1, _, rfl, ?_⟩
          rw [eqv_keys]
          have hf := filt_take (lpart (lnames (lnum ns)) c) he'
          have lle : ((fs.take j).filter (sameKey (lpart (lnames (lnum ns)) c))).length ≤ 1000 := Nat.le_trans (List.length_filter_le _ _) (by rw [List.length_take]; omega)
          refine ite2 (fun ek => ?_) (fun ek => ?_)
          · rw [if_pos (of_decide_eq_true ek)] at hf
            refine ⟨_, rfl, _, s7 _ _ hp.2, by rw [List.length_map]; exact small1000 lle, put_same (hp.1.trans s7) hD, ?_⟩
            rw [upd_same, hf, List.map_append]
            rfl
          · rw [if_neg (fun z => ek (decide_eq_true z))] at hf
            exact ⟨hp.1.trans s7, by rw [hf]; exact s7 _ _ hp.2⟩
        obtain ⟨s6, eD⟩ := hp
        rw [List.take_length] at eD
        refine ⟨Nat.zero_le _, fun el hel => ?_⟩
        have s7 := s6.trans (same_upd (o := .lst []) hel)
        have s8 := s35.trans s7
        have pf8 := pf5.same s7
        have pt8 := pt.same s7
        have en8 := s7 _ _ en5
        have gds : ∀ q ∈ (fs.filter (sameKey (lpart (lnames (lnum ns)) c))).map (·.1), Good q := fun q hq => by
          obtain ⟨e', he', rfl⟩ := List.mem_map.mp hq
          exact (lup i).1.good _ (by rw [← ef]; exact List.mem_map.mpr ⟨e', (List.mem_filter.mp he').1, rfl⟩)
        refine ⟨partsD ((fs.filter (sameKey (lpart (lnames (lnum ns)) c))).map (·.1)), _, .lst (SqL.of (same_upd hel _ _ eD)) (dpall_parts fun e' he' => pf8.2 e' (List.mem_filter.mp he').1), .lst (xs := []) (SqL.of upd_same) .nil, shaped_parts gds, shaped_nil, _, rfl, ?_⟩
        rw [eqv_nil, filt_all, ef]
        refine ite2 (fun ek => ?_) (fun ek => ?_)
        · refine ⟨_, rfl, .inl ⟨rfl, _, SqL.of pf8.1⟩, _, rfl, pl, _, _, rfl, rfl, pf8.1, by rw [List.length_map]; exact small1000 (by omega), ?_⟩
          refine ⟨some (.int (0 + ((i : Nat) : Int))), some (.int c), some (.int (lmany c)), some (.ref u), fs ++ [(lpart (lnames (lnum ns)) c, u, xl)], rfl, put_same s8 pl0, (upd_ne npn).trans en8, ?_, ⟨?_, fun x hx => ?_⟩, fun x hx => ?_⟩
          · rw [List.map_append, ef]
            show _ = ladd (lupto ns (lnames (lnum ns)) i) (lpart (lnames (lnum ns)) (lcell ns i))
            rw [hc]
            unfold ladd
            rw [if_pos ek]
            rfl
          · rw [upd_same, List.map_append]
            rfl
          · rcases List.mem_append.mp hx with hx | hx
            · have p5 := pf8.2 x hx
              exact ⟨(upd_ne (ne_of p5.1 pf8.1 (by intro z; cases z))).trans p5.1, (upd_ne (ff x hx)).trans p5.2⟩
            · rw [List.mem_singleton] at hx
              subst hx
              exact ⟨(upd_ne (ne_of pt8.1 pf8.1 (by intro z; cases z))).trans pt8.1, (upd_ne nxp).trans pt8.2⟩
          · rcases List.mem_append.mp hx with hx | hx
            · exact ff x hx
            · rw [List.mem_singleton] at hx
              subst hx
              exact nxp
        · refine ⟨some (.int (0 + ((i : Nat) : Int))), some (.int c), some (.int (lmany c)), some (.ref u), fs, rfl, s8, en8, ?_, pf8, ff⟩
          rw [ef]
          show _ = ladd (lupto ns (lnames (lnum ns)) i) (lpart (lnames (lnum ns)) (lcell ns i))
          rw [hc]
          unfold ladd
          rw [if_neg ek]
    · obtain ⟨v2, v5, v6, v7, fs, rfl, s3, en, ef, pf, ff⟩ := hp
      exact ⟨_, rfl, k _ pl s3 pl0 ⟨fs, ef, pf⟩⟩
end
end Cf
namespace Cf
open PySem L2
abbrev nameD (ps : List Pt) (c : Nat) : PyData := .list ((ps.filter fun q => decide (q.k = c)).map fun q => .str (S q.n))
theorem shaped_names {ps : List Pt} (g : ∀ p ∈ ps, Good p) (cs : List Nat) : SeqAt.shaped (.list (cs.map (nameD ps))) = true :=
  shaped_of (n := 2) (lay_list (n := 1) fun d hd => by
    obtain ⟨c, _, rfl⟩ := List.mem_map.mp hd
    refine lay_list (n := 0) fun e he => ?_
    obtain ⟨q, hq, rfl⟩ := List.mem_map.mp he
    simp only [PyData.canLay0, PyData.depth, strOk_small (g q (List.mem_filter.mp hq).1).ns]
    decide) (by decide)
theorem parts_ne {H : Hp} {a : Addr} {fs : List Trip} (h : PartsE H a fs) {e : Trip} (he : e ∈ fs) : a ≠ e.2.2 := fun z => by
  have h1 := h.1
  have h2 := (h.2 e he).2
  rw [← z, h1] at h2
  injection h2 with h2
  injection h2 with h2
  cases fs with
  | nil => cases he
  | cons x r =>
    cases hx : e.1.xs with
    | nil => rw [hx] at h2; cases h2
    | cons y s => rw [hx] at h2; cases h2
/-- lists of names on the heap -/
def NamesE (H : Hp) (a : Addr) (ps : List Pt) (es : List (Nat × Addr)) : Prop := H a = some (.lst (es.map fun e => V.ref e.2)) ∧ ∀ e ∈ es, H e.2 = some (.lst (namesV ps e.1))
theorem NamesE.same {H H' : Hp} {a : Addr} {ps : List Pt} {es : List (Nat × Addr)} (h : NamesE H a ps es) (s : Same H H') : NamesE H' a ps es := ⟨s _ _ h.1, fun e he => s _ _ (h.2 e he)⟩
section
variable {K : PySem.W.Frag} {H : Hp}
theorem dpall_strs : ∀ l : List Pt, DpAll K H (l.map fun q => V.str (S q.n)) (l.map fun q => PyData.str (S q.n))
  | [] => .nil
  | q :: r => .cons (.str _) (dpall_strs r)
theorem dpall_names {ps : List Pt} : ∀ {es : List (Nat × Addr)}, (∀ e ∈ es, H e.2 = some (.lst (namesV ps e.1))) → DpAll K H (es.map fun e => V.ref e.2) ((es.map (·.1)).map (nameD ps))
  | [], _ => .nil
  | e :: r, h => .cons (.lst (SqL.of (h e List.mem_cons_self)) (dpall_strs _)) (dpall_names fun x hx => h x (List.mem_cons_of_mem _ hx))
theorem eq_names {a b : Addr} {ps : List Pt} {es fs : List (Nat × Addr)} {Q : VK} (g : ∀ p ∈ ps, Good p) (ha : NamesE H a ps es) (hb : NamesE H b ps fs) (h : es.map (·.1) = fs.map (·.1)) (q : Q (.bl true) H) : rEqD K (.ref a) (.ref b) H Q := by
  refine ⟨_, _, .lst (SqL.of ha.1) (dpall_names ha.2), .lst (SqL.of hb.1) (dpall_names hb.2), shaped_names g _, shaped_names g _, ?_⟩
  rw [h, shaped_eqv (shaped_names g _)]
  exact q
end
section
variable {P : Program} {w : World} {K : PySem.W.Frag} {mg : Str → Option Value} {base : Heap} {C : Addr}
/-! ### _law_same -/
abbrev N46 : List Str := ["_law_folio", "_law_parts_here", "_law_found", "_law_kind", "_law_name_here", "_law_numbers", "_law_names", "_law_part"]
abbrev s46 : Stmt := top 46
theorem sc46 : FnScope N46 ["_law_folio", "_law_parts_here"] (defScope s46) := ⟨rfl, rfl, rfl, by decide +kernel, rfl, by decide +kernel, by decide +kernel⟩
abbrev scO : Scope := { kind := .function, names := [(".0", .local), ("_law_kind", .cell), ("_law_parts_here", .cell)], isGenerator := false, isCoroutine := false }
def spSame (C : Addr) : Sp := fun vs H Q _ => ∃ (p d a : Addr) (ps : List Pt), vs = [.ref p, .ref a] ∧ FolAt C H p d ps ∧ PartsAt H a ps ∧ OK ps ∧ ∀ H', Same H H' → Q (.bl true) H'
theorem d_same (A : At K mg "_law_same" s46 ["_law_folio", "_law_parts_here"]) (L : Cl K mg C) (D1 : MDef P w K mg base C "all_parts" ["self"] 1 (spAll C)) (D2 : MDef P w K mg base C "written" ["self"] 5 (spWritten C)) (D3 : Def P w K mg base "_law_written" ["_law_parts_here"] 3 spLWritten)
    (D4 : MDef P w K mg base C "numbers_of" ["self", "kind", "name"] 2 (spNumbersOf C)) (D5 : MDef P w K mg base C "names_of" ["self", "kind"] 1 (spNames C)) : Def P w K mg base "_law_same" ["_law_folio", "_law_parts_here"] 6 (spSame C) := by
  obtain ⟨f, fd, F, g, b⟩ := A
  refine ⟨f, fd, ?_, g, F.kp, b⟩
  refine F.ok sc46 (fun vs H Q E h => ?_) (fun cdv A outer s H vs Q E hr h => ?_)
  · obtain ⟨p, d, a, ps, rfl, _⟩ := h
    rfl
  · obtain ⟨p, d, a, ps, rfl, FA, PA', ok, k⟩ := h
    have hr1 : Room 1 _ := hr.mono (by decide)
    have hr2 : Room 2 _ := hr.mono (by decide)
    have hr3 : Room 3 _ := hr.mono (by decide)
    have hl1 := ok.len
    refine ⟨_, pss_cons (ps_set (i := 2) sc46.nd rfl (.inl rfl) (pe_mdef0 D1 (pv 0) L.cl hr1))
      (pss_cons (ps_if (PW.pt (pw_or (pt_cmpR (op_neD hr.units) (pv 2) (pv 1) (nomark _)) (pw_or1 (pt_cmpR op_ne (pe_mdef0 D2 (pv 0) L.cl hr) (pe_def D3 hr3 rfl (pa_cons (pv 1) pa_nil)) (nomark _))))) (pss_one (ps_ret pe_bl)) pss_nil)
      (pss_cons (ps_for PassesOwn.never rfl (pi_list (pv 2)) (pg_tup rfl (pgs_cons (pg_name (i := 3) sc46.nd rfl (.inl rfl)) (pgs_cons (pg_name (i := 4) sc46.nd rfl (.inl rfl)) (pgs_cons (pg_name (i := 5) sc46.nd rfl (.inl rfl)) pgs_nil))))
        (pss_cons (ps_if (pt_cmpR (op_neD hr.units) (pe_mdef D4 (pv 0) L.cl hr2 (pa_cons (pv 3) (pa_cons (pv 4) pa_nil))) (pv 5) (nomark _)) (pss_one (ps_ret pe_bl)) pss_nil)
        (pss_one (ps_expr (pe_bm PySem.F.plainAttrs_list PySem.F.slot_list_append PySem.F.type_list_append mt_append (pv 5) (pa_cons pe_int pa_nil))))))
      (pss_cons (ps_setLc (i := 6) (own := [("_law_kind", 3)]) (g := gName 3) (te := tLc (iList K (tVar 1)) (gName 7) (tTest (tOp rEq (tOp (rIxT K) (tVar 7) (tC (.int 0))) (tVar 3))) (tOp (rIxT K) (tVar 7) (tC (.int 1))) [7]) rfl sc46.nd rfl rfl (sw_true rfl rfl rfl (by decide +kernel)) (pi_str pe_str) (blkOk_by (N := N46) (sc := defScope s46) (by decide +kernel))
        (fun _ _ _ _ _ => pg_name (i := 3) sc46.nd rfl (Or.inr rfl)) (fun _ _ _ _ _ => pts_nil)
        (fun _ _ _ _ _ => pe_lc (own := [("_law_part", 7)]) (g := gName 7) (tt := tTest (tOp rEq (tOp (rIxT K) (tVar 7) (tC (.int 0))) (tVar 3))) (te := tOp (rIxT K) (tVar 7) (tC (.int 1))) rfl sc46.nd (pi_list (pv 1)) (blkOk_by (N := N46) (sc := scO) (by decide +kernel))
          (fun _ _ _ _ _ => pg_name (i := 7) sc46.nd rfl (Or.inl rfl)) (fun _ _ _ _ _ => pts_one (pt_cmpR op_eq (pe_ix ix_tup (pv 7) pe_int (fun _ _ => rfl)) (pv 3) (nomark _))) (fun _ _ _ _ _ => pe_ix ix_tup (pv 7) pe_int (fun _ _ => rfl))))
      (pss_cons (ps_expr (pe_bm0 PySem.F.plainAttrs_list PySem.F.slot_list_clear PySem.F.type_list_clear mt_clear (pv 2)))
      (pss_one (ps_ret (pe_and (pe_cmpR (op_eqD hr.units) (pe_lc (own := [("_law_kind", 3)]) (g := gName 3) (te := tMeth C "names_of" (spNames C) [] E0 (tVar 0) (tCons (tVar 3) tNil)) rfl sc46.nd (pi_str pe_str) (blkOk_by (N := N46) (sc := defScope s46) (by decide +kernel))
          (fun _ _ _ _ _ => pg_name (i := 3) sc46.nd rfl (Or.inl rfl)) (fun _ _ _ _ _ => pts_nil) (fun _ _ _ _ _ => pe_mdef D5 (pv 0) L.cl hr1 (pa_cons (pv 3) pa_nil))) (pv 6) (nomark _))
        (pe_one (pe_cmpR (op_eqD hr.units) (pe_mdef0 D1 (pv 0) L.cl hr1) (pv 1) (nomark _)))))))))), ?_⟩
    obtain ⟨dx, es, ee, h1, h2, h3⟩ := id FA.ex
    -- found
    refine ⟨_, rfl, p, dx, _, rfl, h1, flds_no _ _ (by decide +kernel) (by decide +kernel), p, d, ps, rfl, FA, ok.nd, by omega, fun H1 fa fs s1 hfa ef pf nf ff => ?_⟩
    have PF : PartsAt H1 fa ps := ⟨fs, ef, pf⟩
    refine ⟨_, rfl, _, rfl, ne_parts ok.good PF (PA'.same s1) ⟨false, rfl, ?_⟩⟩
    refine iteF ?_
    refine ⟨_, rfl, p, dx, _, rfl, s1 _ _ h1, flds_no _ _ (by decide +kernel) (by decide +kernel), p, d, ps, rfl, FA.same s1, ok, fun H2 s2 => ?_⟩
    refine ⟨_, rfl, a, ps, rfl, PA'.same (s1.trans s2), ok, fun H3 s3 => ?_⟩
    refine ⟨rfl, _, rfl, ?_⟩
    refine iteNS rfl ?_
    have s03 := (s1.trans s2).trans s3
    have pf3 := pf.same (s2.trans s3)
    have fl : fs.length = ps.length := by rw [← ef, List.length_map]
    -- the loop
    refine ⟨_, rfl, fa, rfl, ⟨_, SqL.of pf3.1⟩, for_list (K := K) (a := fa) (xs := fs.map fun e => V.ref e.2.1) (fun i σ H' => ∃ v3 v4 v5, σ = [some (.ref p), some (.ref a), some (.ref fa), v3, v4, v5, none, none] ∧ (∀ b o, H3 b = some o → (∀ e ∈ fs.take i, e.2.2 ≠ b) → H' b = some o))
      ⟨none, none, none, rfl, fun b o e _ => e⟩ (fun i σ H' _ hp => by obtain ⟨_, _, _, _, kp⟩ := hp; exact SqL.of (kp _ _ pf3.1 fun e he => (parts_ne pf3 (List.mem_of_mem_take he)).symm)) (fun i x σ H' hx hp => ?_) (fun σ H' hp => ?_)⟩
    · obtain ⟨v3, v4, v5, rfl, kp⟩ := hp
      obtain ⟨e, he, rfl⟩ := get_map hx
      have hem := get_mem he
      have pe := pf3.2 e hem
      have hpi : ps[i]? = some e.1 := by rw [← ef]; exact map_get (f := (·.1)) he
      have oldr : ∀ x ∈ fs.take i, x.2.2 ≠ e.2.2 := fun x hx z => by
        have nd := nf.sublist ((List.take_sublist (i + 1) fs).map (·.2.2))
        rw [List.take_add_one, he, List.map_append] at nd
        exact (List.nodup_append.mp nd).2.2 _ (List.mem_map.mpr ⟨x, hx, rfl⟩) _ (List.mem_singleton.mpr rfl) z
      have rl : ∀ x ∈ fs, ∃ l, H3 x.2.2 = some (.lst l) := fun x hx => ⟨_, (pf3.2 x hx).2⟩
      have pt1 : ∀ x ∈ fs.take i, x.2.2 ≠ e.2.1 := fun x hx z => by
        obtain ⟨l, hl⟩ := rl x (List.mem_of_mem_take hx)
        rw [z, pe.1] at hl
        cases hl
      have pt : PartT H' e.2.1 e.1 e.2.2 := ⟨kp _ _ pe.1 pt1, kp _ _ pe.2 oldr⟩
      have sH : Same H H' := fun b o eb => kp _ _ (s03 _ _ eb) fun x hx z => by
        have := ff x (List.mem_of_mem_take hx)
        rw [z, eb] at this
        cases this
      refine ⟨e.2.1, _, rfl, SqT.of pt.1, rfl, _, _, rfl, _, _, rfl, _, _, rfl, rfl, ?_⟩
      refine ⟨_, rfl, p, dx, _, rfl, sH _ _ h1, flds_no _ _ (by decide +kernel) (by decide +kernel), _, rfl, _, rfl, p, d, ps, e.1, rfl, FA.same sH, ok.nd, get_mem hpi, fun H4 l s4 hl el => ?_⟩
      refine ⟨_, rfl, ne_ints (SqL.of el) (SqL.of (s4 _ _ pt.2)) ⟨false, rfl, ?_⟩⟩
      refine iteF ?_
      have gx := (ok.good _ (get_mem hpi)).len
      refine ⟨_, rfl, .inl ⟨rfl, _, SqL.of (s4 _ _ pt.2)⟩, e.2.2, _, _, rfl, rfl, s4 _ _ pt.2, by rw [List.length_map]; exact five (by omega), ?_⟩
      refine ⟨some (.str (S [e.1.k])), some (.str (S e.1.n)), some (.ref e.2.2), rfl, fun b o eb hb => ?_⟩
      rw [List.take_add_one, he] at hb
      have nb : b ≠ e.2.2 := fun z => hb e (List.mem_append_right _ (List.mem_singleton.mpr rfl)) z.symm
      exact (upd_ne nb).trans (s4 _ _ (kp _ _ eb fun x hx => hb x (List.mem_append_left _ hx)))
    · obtain ⟨v3, v4, v5, rfl, kp⟩ := hp
      have sH : Same H H' := fun b o eb => kp _ _ (s03 _ _ eb) fun x hx z => by
        have := ff x (List.mem_of_mem_take hx)
        rw [z, eb] at this
        cases this
      have efa : H' fa = some (.lst (fs.map fun e => V.ref e.2.1)) := kp _ _ pf3.1 fun e he => (parts_ne pf3 (List.mem_of_mem_take he)).symm
      obtain ⟨gs, eg, pg⟩ := PA'
      -- names
      refine ⟨S [112, 99, 100], congrArg V.str pcd_str, fun nl hnl => ?_⟩
      refine lc_turns 3 (fun i H5 => Same H' H5 ∧ ∃ ns : List (Nat × Addr), ns.map (·.1) = [112, 99, 100].take i ∧ NamesE H5 nl ps ns ∧ ∀ e ∈ ns, e.2 ≠ nl ∧ e.2 ≠ fa)
        ⟨same_upd hnl, [], rfl, ⟨upd_same, fun e he => nomatch he⟩, fun e he => nomatch he⟩ (fun i H5 hi hp => hi) (fun H5 hp => Nat.le_refl 3) (fun i x H5 H6 hi hp hy => ?_) (fun H5 hp => ?_)
      · obtain ⟨s5, ns, en, pn, fn⟩ := hp
        obtain ⟨rfl, c, hc, rfl⟩ := hy
        have hc' : [112, 99, 100][i]? = some c := by
          rw [← hc]
          exact List.getElem?_toArray.symm
        have s05 := sH.trans s5
        have pg5 := pg.same s05
        have gl : gs.length ≤ 1000 := by
          have := congrArg List.length eg
          rw [List.length_map] at this
          omega
        refine ⟨rfl, ?_⟩
        unfold tYes
        refine iteT ?_
        refine ⟨_, rfl, a, rfl, ⟨_, SqL.of pg5.1⟩, fun Dl hD => ?_⟩
        have hD0 := hD
        refine lc_turns gs.length (fun j H7 => Same H6 H7 ∧ H7 Dl = some (.lst (namesV ((gs.map (·.1)).take j) c))) ⟨same_upd hD, upd_same⟩ (fun j H7 hj hp => ?_) (fun H7 hp => ?_) (fun j x H7 H8 hj hp hy => ?_) (fun H7 hp => ?_)
        · obtain ⟨x, hx⟩ := lt_get hj
          exact ⟨_, _, SqL.of (hp.1 _ _ pg5.1), map_get hx⟩
        · exact ⟨_, SqL.of (hp.1 _ _ pg5.1), by rw [List.length_map]; exact Nat.le_refl _⟩
        · obtain ⟨rfl, hx⟩ := hy
          obtain ⟨e', he', rfl⟩ := get_map (hx _ (SqL.of (hp.1 _ _ pg5.1)))
          have pe := (pg5.2 e' (get_mem he')).same hp.1
          refine ⟨rfl, ?_⟩
          refine ⟨_, rfl, e'.2.1, _, 0, _, rfl, rfl, SqT.of pe.1, atI_nat (j := 0) rfl, _, rfl, rfl, _, rfl, ?_⟩
          have ht : namesV ((gs.map (·.1)).take (j + 1)) c = _ := namesV_take (c := c) (map_get (f := (·.1)) he')
          refine ite2 (fun ek => ?_) (fun ek => ?_)
          · have ek' : e'.1.k = c := by
              have := of_decide_eq_true ek
              injection this with this
              have := S_inj this
              injection this
            rw [if_pos ek'] at ht
            refine ⟨_, rfl, e'.2.1, _, 1, _, rfl, rfl, SqT.of pe.1, atI_nat (j := 1) rfl, _, hp.2, ?_, put_same hp.1 hD, ?_⟩
            · refine small1000 (Nat.le_trans (namesV_len _ _) ?_)
              rw [List.length_take, List.length_map]
              omega
            · rw [upd_same, ht]
          · have ek' : ¬ e'.1.k = c := fun z => ek (by rw [z]; exact decide_eq_true rfl)
            rw [if_neg ek'] at ht
            exact ⟨hp.1, by rw [ht]; exact hp.2⟩
        · have e2 := hp.2
          rw [show gs.length = (gs.map (·.1)).length from (List.length_map ..).symm, List.take_length, eg] at e2
          have pn7 := pn.same hp.1
          have nDn : Dl ≠ nl := fun z => by rw [z, pn.1] at hD; cases hD
          have nDf : Dl ≠ fa := fun z => by rw [z, s5 _ _ efa] at hD0; cases hD0
          have nsl : ns.length ≤ 3 := by
            have := congrArg List.length en
            rw [List.length_map, List.length_take] at this
            exact Nat.le_trans (Nat.le_of_eq this) (Nat.min_le_right _ _)
          refine ⟨_, pn7.1, by rw [List.length_map]; exact small1000 (by omega), put_same (s5.trans hp.1) hnl, ns ++ [(c, Dl)], ?_, ⟨?_, fun x hx => ?_⟩, fun x hx => ?_⟩
          · rw [List.map_append, en, List.take_add_one, hc']
            rfl
          · rw [upd_same, List.map_append]
            rfl
          · rcases List.mem_append.mp hx with hx | hx
            · exact (upd_ne (fn x hx).1).trans (pn7.2 x hx)
            · rw [List.mem_singleton] at hx
              subst hx
              exact (upd_ne nDn).trans e2
          · rcases List.mem_append.mp hx with hx | hx
            · exact fn x hx
            · rw [List.mem_singleton] at hx
              subst hx
              exact ⟨nDn, nDf⟩
      obtain ⟨s5, ns, en, pn, fn⟩ := hp
      have s05 := sH.trans s5
      have efa5 := s5 _ _ efa
      -- found.clear()
      refine ⟨_, rfl, .inl ⟨rfl, _, SqL.of efa5⟩, fa, _, rfl, rfl, efa5, ?_⟩
      have s6 : Same H (upd H5 fa (.lst [])) := put_same s05 hfa
      have nfn : nl ≠ fa := fun z => by rw [z, efa] at hnl; cases hnl
      have nfe : ∀ e ∈ ns, e.2 ≠ fa := fun e he => (fn e he).2
      have pn6 : NamesE (upd H5 fa (.lst [])) nl ps ns := ⟨(upd_ne nfn).trans pn.1, fun e he => (upd_ne (nfe e he)).trans (pn.2 e he)⟩
      generalize upd H5 fa (.lst []) = H6 at *
      -- names of the folio
      refine ⟨S [112, 99, 100], congrArg V.str pcd_str, fun Dl hD => ?_⟩
      refine lc_turns 3 (fun i H7 => Same H6 H7 ∧ ∃ ms : List (Nat × Addr), ms.map (·.1) = [112, 99, 100].take i ∧ NamesE H7 Dl ps ms ∧ ∀ e ∈ ms, e.2 ≠ Dl)
        ⟨same_upd hD, [], rfl, ⟨upd_same, fun e he => nomatch he⟩, fun e he => nomatch he⟩ (fun i H7 hi hp => hi) (fun H7 hp => Nat.le_refl 3) (fun i x H7 H8 hi hp hy => ?_) (fun H7 hp => ?_)
      · obtain ⟨s7, ms, em, pm, fm⟩ := hp
        obtain ⟨rfl, c, hc, rfl⟩ := hy
        have hc' : [112, 99, 100][i]? = some c := by
          rw [← hc]
          exact List.getElem?_toArray.symm
        have s07 := s6.trans s7
        refine ⟨rfl, ?_⟩
        unfold tYes
        refine iteT ?_
        refine ⟨_, rfl, p, dx, _, rfl, s07 _ _ h1, flds_no _ _ (by decide +kernel) (by decide +kernel), _, rfl, p, d, ps, c, rfl, FA.same s07, by omega, fun H9 l s9 hl el => ?_⟩
        have pm9 := pm.same s9
        have nlD : l ≠ Dl := fun z => by rw [z, pm.1] at hl; cases hl
        have msl : ms.length ≤ 3 := by
          have := congrArg List.length em
          rw [List.length_map, List.length_take] at this
          exact Nat.le_trans (Nat.le_of_eq this) (Nat.min_le_right _ _)
        refine ⟨_, pm9.1, by rw [List.length_map]; exact small1000 (by omega), put_same (s7.trans s9) hD, ms ++ [(c, l)], ?_, ⟨?_, fun x hx => ?_⟩, fun x hx => ?_⟩
        · rw [List.map_append, em, List.take_add_one, hc']
          rfl
        · rw [upd_same, List.map_append]
          rfl
        · rcases List.mem_append.mp hx with hx | hx
          · exact (upd_ne (fm x hx)).trans (pm9.2 x hx)
          · rw [List.mem_singleton] at hx
            subst hx
            exact (upd_ne nlD).trans el
        · rcases List.mem_append.mp hx with hx | hx
          · exact fm x hx
          · rw [List.mem_singleton] at hx
            subst hx
            exact nlD
      obtain ⟨s7, ms, em, pm, fm⟩ := hp
      have s07 := s6.trans s7
      refine ⟨_, rfl, eq_names ok.good pm (pn6.same s7) (em.trans en.symm) ⟨true, rfl, ?_⟩⟩
      refine iteT ?_
      refine ⟨_, rfl, p, dx, _, rfl, s07 _ _ h1, flds_no _ _ (by decide +kernel) (by decide +kernel), p, d, ps, rfl, FA.same s07, ok.nd, by omega, fun H8 l8 fs8 s8 hl8 ef8 pf8 nf8 ff8 => ?_⟩
      refine ⟨_, rfl, eq_parts ok.good ⟨fs8, ef8, pf8⟩ ⟨gs, eg, pg.same (s07.trans s8)⟩ ?_⟩
      exact k _ (s07.trans s8)
end
end Cf
namespace Cf
open PySem L2
/-- a list of parts stands beside a folio's change -/
theorem PartsAt.keep {C : Addr} {H H' : Hp} {p d a : Addr} {ps qs : List Pt} (h : PartsAt H a ps) (g : FolAt C H p d qs) (k : Keep p d H H') : PartsAt H' a ps := by
  obtain ⟨dx, es, _, g1, g2, _⟩ := g.ex
  obtain ⟨fs, e, h1, h2⟩ := h
  exact ⟨fs, e, k _ _ h1 (ne_of h1 g1 (by intro z; cases z)) (ne_of h1 g2 (by intro z; cases z)), fun x hx =>
    ⟨k _ _ (h2 x hx).1 (ne_of (h2 x hx).1 g1 (by intro z; cases z)) (ne_of (h2 x hx).1 g2 (by intro z; cases z)), k _ _ (h2 x hx).2 (ne_of (h2 x hx).2 g1 (by intro z; cases z)) (ne_of (h2 x hx).2 g2 (by intro z; cases z))⟩⟩
theorem PartsE.keep {C : Addr} {H H' : Hp} {p d a : Addr} {fs : List Trip} {qs : List Pt} (h : PartsE H a fs) (g : FolAt C H p d qs) (k : Keep p d H H') : PartsE H' a fs := by
  obtain ⟨dx, es, _, g1, g2, _⟩ := g.ex
  obtain ⟨h1, h2⟩ := h
  exact ⟨k _ _ h1 (ne_of h1 g1 (by intro z; cases z)) (ne_of h1 g2 (by intro z; cases z)), fun x hx =>
    ⟨k _ _ (h2 x hx).1 (ne_of (h2 x hx).1 g1 (by intro z; cases z)) (ne_of (h2 x hx).1 g2 (by intro z; cases z)), k _ _ (h2 x hx).2 (ne_of (h2 x hx).2 g1 (by intro z; cases z)) (ne_of (h2 x hx).2 g2 (by intro z; cases z))⟩⟩
theorem Keep.of {p d : Addr} {H H1 H2 : Hp} (s : Same H H1) (k : Keep p d H1 H2) : Keep p d H H2 := fun b o e h1 h2 => k b o (s b o e) h1 h2
theorem Keep.to {p d : Addr} {H H1 H2 : Hp} (k : Keep p d H H1) (s : Same H1 H2) : Keep p d H H2 := fun b o e h1 h2 => s b o (k b o e h1 h2)
theorem Keep.trans {p d : Addr} {H H1 H2 : Hp} (k : Keep p d H H1) (j : Keep p d H1 H2) : Keep p d H H2 := fun b o e h1 h2 => j b o (k b o e h1 h2) h1 h2
/-- behind the first half of _law_moved -/
structure Mv (C : Addr) (H H5 : Hp) (p d fl : Addr) (qs : List Pt) : Prop where
  keep : Keep p d H H5
  fo : FolAt C H5 p d qs
  pa : PartsAt H5 fl qs
  l0 : H fl = none
theorem z_str : Str.ofString "z" = S [122] := by decide +kernel
theorem zz_str : Str.ofString "zz" = S [122, 122] := by decide +kernel
theorem mem_erase {α : Type} : ∀ {l : List α} {i : Nat} {x : α}, x ∈ l.eraseIdx i → x ∈ l := fun h => List.mem_of_mem_eraseIdx h
section
variable {P : Program} {w : World} {K : PySem.W.Frag} {mg : Str → Option Value} {base : Heap} {C : Addr}
/-! ### _law_moved -/
abbrev N48 : List Str := ["_law_folio", "_law_parts_here", "_law_cell", "_law_found", "_law_part"]
abbrev s48 : Stmt := top 48
theorem sc48 : FnScope N48 ["_law_folio", "_law_parts_here", "_law_cell"] (defScope s48) := ⟨rfl, rfl, rfl, by decide +kernel, rfl, by decide +kernel, by decide +kernel⟩
def spMoved (C : Addr) : Sp := fun vs H Q _ => ∃ (p d a : Addr) (ps : List Pt) (c : Int), vs = [.ref p, .ref a, .int c] ∧ FolAt C H p d ps ∧ PartsAt H a ps ∧ LOK ps 3000 ∧ 0 ≤ c ∧
  ∀ H' l, Keep p d H H' → H l = none → PartsAt H' l (moved ps c) → FolAt C H' p d (moved ps c) → Q (.ref l) H'
theorem d_moved (A : At K mg "_law_moved" s48 ["_law_folio", "_law_parts_here", "_law_cell"]) (T : Txt mg) (L : Cl K mg C) (D1 : MDef P w K mg base C "take_part" ["self", "kind", "name"] 5 (spTake C)) (D2 : MDef P w K mg base C "put_part" ["self", "part"] 5 (spPut C)) :
    Def P w K mg base "_law_moved" ["_law_folio", "_law_parts_here", "_law_cell"] 6 (spMoved C) := by
  obtain ⟨f, fd, F, g, b⟩ := A
  refine ⟨f, fd, ?_, g, F.kp, b⟩
  refine F.ok sc48 (fun vs H Q E h => ?_) (fun cdv A outer s H vs Q E hr h => ?_)
  · obtain ⟨p, d, a, ps, c, rfl, _⟩ := h
    rfl
  · obtain ⟨p, d, a, ps, c, rfl, FA, PA', ok, c0, k⟩ := h
    have okk := ok.ok (by decide)
    have hl1 := okk.len
    have hl2 := ok.flat
    obtain ⟨fs, ef, pf⟩ := id PA'
    have fl : fs.length = ps.length := by rw [← ef, List.length_map]
    refine ⟨_, pss_cons (ps_set (i := 3) sc48.nd rfl (.inl rfl) (pe_callTy call_list_of (by rfl) T.list PyProof.Rows.boot_list (pa_cons (pv 1) pa_nil)))
      (pss_cons (ps_if (pt_cmpR (op_neD hr.units) (pv 1) (pe_lst pa_nil) (nomark _))
        (pss_cons (ps_set (i := 4) sc48.nd rfl (.inl rfl) (pe_bm PySem.F.plainAttrs_list PySem.F.slot_list_pop PySem.F.type_list_pop mt_popAt (pv 3) (pa_cons (pe_op op_mod (pv 2) (pe_callB call_len_seq (by rfl) T.len PySem.boot_len (pa_cons (pv 1) pa_nil))) pa_nil)))
        (pss_cons (ps_expr (pe_mdef D1 (pv 0) L.cl hr (pa_cons (pe_ix ix_tup (pv 4) pe_int (fun _ _ => rfl)) (pa_cons (pe_ix ix_tup (pv 4) pe_int (fun _ _ => rfl)) pa_nil))))
        (pss_one (ps_if (pt_cmpR op_eq (pe_op op_mod (pe_op op_fdiv (pv 2) pe_int) pe_int) pe_int (nomark _))
          (pss_cons (ps_expr (pe_mdef D2 (pv 0) L.cl hr (pa_cons (pe_tup (pa_cons (pe_ix ix_tup (pv 4) pe_int (fun _ _ => rfl)) (pa_cons (pe_ix ix_tup (pv 4) pe_int (fun _ _ => rfl)) (pa_cons (pe_callTy call_list_of (by rfl) T.list PyProof.Rows.boot_list (pa_cons (pe_ix ix_tup (pv 4) pe_int (fun _ _ => rfl)) pa_nil)) pa_nil)))) pa_nil)))
          (pss_one (ps_expr (pe_bm PySem.F.plainAttrs_list PySem.F.slot_list_append PySem.F.type_list_append mt_append (pv 3) (pa_cons (pv 4) pa_nil)))))
          pss_nil)))) pss_nil)
      (pss_cons (ps_expr (pe_mdef D2 (pv 0) L.cl hr (pa_cons (pe_tup (pa_cons pe_str (pa_cons pe_str (pa_cons (pe_lst (pa_cons (pe_op op_mod (pv 2) pe_int) pa_nil)) pa_nil)))) pa_nil)))
      (pss_one (ps_ret (pe_op op_cat (pv 3) (pe_lst (pa_cons (pe_tup (pa_cons pe_str (pa_cons pe_str (pa_cons (pe_lst (pa_cons (pe_op op_mod (pv 2) pe_int) pa_nil)) pa_nil)))) pa_nil))))))), ?_⟩
    -- found = list(parts_here)
    refine ⟨_, rfl, a, _, rfl, .inl (SqL.of pf.1), fun l hl => ?_⟩
    have s1 : Same H (upd H l (.lst (fs.map fun e => V.ref e.2.1))) := same_upd hl
    have el : upd H l (.lst (fs.map fun e => V.ref e.2.1)) l = some (.lst (fs.map fun e => V.ref e.2.1)) := upd_same
    generalize upd H l (.lst (fs.map fun e => V.ref e.2.1)) = H1 at *
    have rne : ∀ e ∈ fs, e.2.2 ≠ l := fun e he z => by
      have := (pf.2 e he).2
      rw [z, hl] at this
      cases this
    -- if parts_here != []
    refine ⟨_, rfl, Nat.zero_le _, fun z hz => ?_⟩
    have s2 := s1.trans (same_upd (o := .lst []) hz)
    have el2 := same_upd (o := .lst []) hz _ _ el
    have ez2 : upd H1 z (.lst []) z = some (.lst []) := upd_same
    generalize upd H1 z (.lst []) = H2 at *
    refine ⟨_, _, dp_parts (PA'.same s2), .lst (xs := []) (SqL.of ez2) .nil, shaped_parts ok.good, shaped_nil, _, rfl, ?_⟩
    rw [eqv_nil]
    have FA2 := FA.same s2
    have pf2 := pf.same s2
    refine ite2 (fun e => ?br1) (fun e => ?br2)
    case' br2 =>
      have M : Mv C H H2 p d l (moved0 ps c) := by
        have hps : ps = [] := by
          cases ps with
          | nil => rfl
          | cons x r => exact absurd rfl e
        subst hps
        have hm : moved0 [] c = [] := by unfold moved0; rfl
        rw [hm]
        exact ⟨fun b o eb _ _ => s2 _ _ eb, FA2, ⟨fs, ef, el2, pf2.2⟩, hl⟩
    case' br1 =>
      have hne : ps ≠ [] := fun z => by subst z; cases e
      have hpos : 0 < ps.length := List.length_pos_iff.mpr hne
      have hm0 : 0 ≤ c % (ps.length : Int) := Int.emod_nonneg c (by omega)
      have hm1 : c % (ps.length : Int) < (ps.length : Int) := Int.emod_lt_of_pos c (by omega)
      have hi : cutAt ps c < ps.length := by unfold cutAt; omega
      have ec : c % (ps.length : Int) = ((cutAt ps c : Nat) : Int) := by unfold cutAt; omega
      obtain ⟨q, hq⟩ := lt_get hi
      obtain ⟨e', he', eq'⟩ := get_map (f := fun e : Trip => e.1) (by rw [ef]; exact hq)
      subst eq'
      have gq := ok.good _ (get_mem hq)
      have pe := pf2.2 e' (get_mem he')
      have okp := ok.perm (erase_perm hq)
      have oke := ok.erase hq
      have hmv : moved0 ps c = if c / 7 % 2 = 1 then ps.eraseIdx (cutAt ps c) ++ [e'.1] else ps.eraseIdx (cutAt ps c) := by
        unfold moved0
        rw [hq]
      refine ⟨_, rfl, .inl ⟨rfl, _, SqL.of el2⟩, _, rfl, _, rfl, a, _, rfl, .inl (SqL.of pf2.1), _, _, rfl, rfl, ?_⟩
      rw [List.length_map, fl]
      refine ⟨by omega, l, _, _, cutAt ps c, _, rfl, rfl, el2, by omega, by omega, ?_, map_get he', ?_⟩
      · rw [List.length_map, fl, ec]
        refine (ixN_seq ?_).1
        unfold ixN
        rw [if_pos (by omega), if_pos (by omega)]
        rfl
      rw [← erase_map]
      have s3 : Same H (upd H2 l (.lst ((fs.eraseIdx (cutAt ps c)).map fun e => V.ref e.2.1))) := put_same s2 hl
      have el3 : upd H2 l (.lst ((fs.eraseIdx (cutAt ps c)).map fun e => V.ref e.2.1)) l = some (.lst ((fs.eraseIdx (cutAt ps c)).map fun e => V.ref e.2.1)) := upd_same
      have n3 : NoEnt (upd H2 l (.lst ((fs.eraseIdx (cutAt ps c)).map fun e => V.ref e.2.1))) d l := fun kvs ek kv hkv z => by
        obtain ⟨dx, es, _, _, g2, g3⟩ := FA.ex
        rw [s3 _ _ g2] at ek
        cases ek
        obtain ⟨y, hy, rfl⟩ := List.mem_map.mp hkv
        have := g3 y hy
        rw [V.ref.inj z, hl] at this
        cases this
      generalize upd H2 l (.lst ((fs.eraseIdx (cutAt ps c)).map fun e => V.ref e.2.1)) = H3 at *
      have FA3 := FA.same s3
      have pf3 : PartsE H3 l (fs.eraseIdx (cutAt ps c)) := ⟨el3, fun x hx => (pf.2 x (List.mem_of_mem_eraseIdx hx)).same s3⟩
      have pe3 := (pf.2 e' (get_mem he')).same s3
      have ef3 : (fs.eraseIdx (cutAt ps c)).map (·.1) = ps.eraseIdx (cutAt ps c) := by rw [erase_map, ef]
      -- folio.take_part(part[0], part[1])
      obtain ⟨dx, es, _, g1, g2, g3⟩ := id FA3.ex
      refine ⟨_, rfl, p, dx, _, rfl, g1, flds_no _ _ (by decide +kernel) (by decide +kernel), _, rfl, e'.2.1, _, 0, _, rfl, rfl, SqT.of pe3.1, atI_nat (j := 0) rfl, _, rfl, e'.2.1, _, 1, _, rfl, rfl, SqT.of pe3.1, atI_nat (j := 1) rfl, p, d, ps, cutAt ps c, e'.1, rfl, FA3, ok.nd, hq, gq, fun H4 k4 F4 nn4 => ?_⟩
      have k04 : Keep p d H H4 := Keep.of s3 k4
      have pf4 := pf3.keep FA3 k4
      have n4 := nn4 _ _ el3 n3
      have pe4 : PartT H4 e'.2.1 e'.1 e'.2.2 := ⟨k4 _ _ pe3.1 (ne_of pe3.1 g1 (by intro z; cases z)) (ne_of pe3.1 g2 (by intro z; cases z)), k4 _ _ pe3.2 (ne_of pe3.2 g1 (by intro z; cases z)) (ne_of pe3.2 g2 (by intro z; cases z))⟩
      refine ⟨_, rfl, _, _, rfl, rfl, ⟨by decide, by decide⟩, _, _, rfl, rfl, (by show (0 : Int) < 2; decide), rfl, _, rfl, ite2 (fun e => ?br3) (fun e => ?br4)⟩
      case' br4 =>
        have M : Mv C H H4 p d l (moved0 ps c) := by
          rw [hmv, if_neg fun z => e (decide_eq_true (congrArg V.int z))]
          exact ⟨k04, F4, ⟨_, ef3, pf4⟩, hl⟩
      case' br3 =>
        obtain ⟨dy, es4, _, f1, f2, f3⟩ := id F4.ex
        refine ⟨_, rfl, p, dy, _, rfl, f1, flds_no _ _ (by decide +kernel) (by decide +kernel), _, rfl, e'.2.1, _, 0, _, rfl, rfl, SqT.of pe4.1, atI_nat (j := 0) rfl, _, rfl, e'.2.1, _, 1, _, rfl, rfl, SqT.of pe4.1, atI_nat (j := 1) rfl, _, rfl, e'.2.1, _, 2, _, rfl, rfl, SqT.of pe4.1, atI_nat (j := 2) rfl, e'.2.2, _, rfl, .inl (SqL.of pe4.2), fun c2 hc2 => ⟨(by show 3 ≤ sizeLine; decide), fun u hu => ?_⟩⟩
        have s5 : Same H4 (upd H4 c2 (.lst (e'.1.xs.map V.int))) := same_upd hc2
        have s6 := s5.trans (same_upd (o := .tup (tupV e'.1 c2)) hu)
        have ncu : c2 ≠ u := ne_of_none upd_same hu
        have hnew : Cf.key e'.1 ∉ (ps.eraseIdx (cutAt ps c)).map Cf.key := by
          have nd := okp.nd
          rw [List.map_append] at nd
          exact fun hm => (List.nodup_append.mp nd).2.2 _ hm _ (List.mem_singleton.mpr rfl) rfl
        have fz := okp.flat
        rw [flat_snoc, List.length_append] at fz
        have n6 : NoEnt (upd (upd H4 c2 (.lst (e'.1.xs.map V.int))) u (.tup (tupV e'.1 c2))) d l := fun kvs ek => by
          rw [s6 _ _ f2] at ek
          exact n4 kvs (by rw [f2]; exact ek)
        refine ⟨p, d, u, c2, _, e'.1, rfl, F4.same s6, ⟨upd_same, (upd_ne ncu).trans upd_same⟩, gq, hnew, ?_, ?_, fun H7 k7 F7 nn7 => ?_⟩
        · unfold size
          omega
        · have := List.length_eraseIdx_le ps (cutAt ps c)
          omega
        have k07 : Keep p d H H7 := k04.trans (Keep.of s6 k7)
        have pf7 := (pf4.same s6).keep (F4.same s6) k7
        have pe6 := pe4.same s6
        obtain ⟨dz, es6, _, q1, q2, q3⟩ := id (F4.same s6).ex
        have pe7 : PartT H7 e'.2.1 e'.1 e'.2.2 := ⟨k7 _ _ pe6.1 (ne_of pe6.1 q1 (by intro z; cases z)) (ne_of pe6.1 q2 (by intro z; cases z)), k7 _ _ pe6.2 (ne_of pe6.2 q1 (by intro z; cases z)) (ne_of pe6.2 q2 (by intro z; cases z))⟩
        have n7 := nn7 _ _ ((pf4.same s6).1) n6
        have fl7 : (fs.eraseIdx (cutAt ps c)).length ≤ 1000 := by
          have := List.length_eraseIdx_le fs (cutAt ps c)
          omega
        refine ⟨_, rfl, .inl ⟨rfl, _, SqL.of pf7.1⟩, _, rfl, l, _, _, rfl, rfl, pf7.1, by rw [List.length_map]; exact small1000 fl7, ?_⟩
        have M : Mv C H (upd H7 l (.lst ((fs.eraseIdx (cutAt ps c)).map (fun e => V.ref e.2.1) ++ [V.ref e'.2.1]))) p d l (moved0 ps c) := by
          rw [hmv, if_pos (V.int.inj (of_decide_eq_true e))]
          refine ⟨fun b o eb h1 h2 => (upd_ne (ne_of_none eb hl)).trans (k07 b o eb h1 h2), F7.put n7 pf7.1, ⟨fs.eraseIdx (cutAt ps c) ++ [e'], by rw [List.map_append, ef3]; rfl, by rw [upd_same, List.map_append]; rfl, fun x hx => ?_⟩, hl⟩
          rcases List.mem_append.mp hx with hx | hx
          · have p7 := pf7.2 x hx
            exact ⟨(upd_ne (ne_of p7.1 pf7.1 (by intro z; cases z))).trans p7.1, (upd_ne (rne x (List.mem_of_mem_eraseIdx hx))).trans p7.2⟩
          · rw [List.mem_singleton] at hx
            subst hx
            exact ⟨(upd_ne (ne_of pe7.1 pf7.1 (by intro z; cases z))).trans pe7.1, (upd_ne (rne _ (get_mem he'))).trans pe7.2⟩
    all_goals
      have okm := moved0_ok ok c
      have okz := moved_ok ok c
      have mflat := okm.flat
      obtain ⟨gs, eg, pg⟩ := id M.pa
      obtain ⟨dw, esw, _, w1, w2, w3⟩ := id M.fo.ex
      have hml : (moved0 ps c).length ≤ 1000 := Nat.le_of_lt (okm.ok (by decide)).len
      have gl : gs.length ≤ 1000 := by rw [← eg, List.length_map] at hml; exact hml
      have fz := okz.size
      unfold moved at fz
      rw [size_snoc] at fz
      have hnew : Cf.key (zpart c) ∉ (moved0 ps c).map Cf.key := zkey okm c
      refine ⟨_, rfl, p, dw, _, rfl, w1, flds_no _ _ (by decide +kernel) (by decide +kernel), _, rfl, _, _, rfl, rfl, (by show (0 : Int) < 64; decide), (by show 1 ≤ sizeLine; decide), fun r1 hr1' => ⟨(by show 3 ≤ sizeLine; decide), fun u1 hu1 => ?_⟩⟩
      rw [z_str, zz_str]
      have t1 := (same_upd (o := .lst [.int (c % 64)]) hr1').trans (same_upd (o := .tup (tupV (zpart c) r1)) hu1)
      have nr1 : r1 ≠ u1 := ne_of_none upd_same hu1
      refine ⟨p, d, u1, r1, _, zpart c, rfl, M.fo.same t1, ⟨upd_same, (upd_ne nr1).trans upd_same⟩, zpart_good c, hnew, fz, hml, fun H8 k8 F8 _ => ?_⟩
      have pg8 := (pg.same t1).keep (M.fo.same t1) k8
      have k08 : Keep p d H H8 := M.keep.trans (Keep.of t1 k8)
      refine ⟨_, rfl, _, rfl, _, _, rfl, rfl, (by show (0 : Int) < 64; decide), (by show 1 ≤ sizeLine; decide), fun r2 hr2' => ⟨(by show 3 ≤ sizeLine; decide), fun u2 hu2 => ⟨(by show 1 ≤ sizeLine; decide), fun y hy => ?_⟩⟩⟩
      have t2 : Same H8 (upd (upd (upd H8 r2 (.lst [.int (c % 64)])) u2 (.tup (tupV (zpart c) r2))) y (.lst [.ref u2])) := ((same_upd (o := .lst [.int (c % 64)]) hr2').trans (same_upd (o := .tup (tupV (zpart c) r2)) hu2)).trans (same_upd (o := .lst [.ref u2]) hy)
      have nr2 : r2 ≠ u2 := ne_of_none upd_same hu2
      have pz : PartT (upd (upd (upd H8 r2 (.lst [.int (c % 64)])) u2 (.tup (tupV (zpart c) r2))) y (.lst [.ref u2])) u2 (zpart c) r2 := PartT.same ⟨upd_same, (upd_ne nr2).trans upd_same⟩ (same_upd hy)
      refine ⟨l, y, _, _, rfl, rfl, t2 _ _ pg8.1, upd_same, by rw [List.length_map]; exact five' (by show _ + 1 ≤ 5000; omega), fun x hx => ?_⟩
      have kE : ∀ b o, H b = some o → b ≠ p → b ≠ d → upd (upd (upd H8 r2 (.lst [.int (c % 64)])) u2 (.tup (tupV (zpart c) r2))) y (.lst [.ref u2]) b = some o := fun b o eb h1 h2 => t2 _ _ (k08 b o eb h1 h2)
      have F9 := F8.same t2
      obtain ⟨dv, esv, _, v1, v2, v3⟩ := id F9.ex
      have hxH : H x = none := by
        cases ex : H x with
        | none => rfl
        | some o =>
          have h1 : x ≠ p := (ne_of_none v1 hx).symm
          have h2 : x ≠ d := (ne_of_none v2 hx).symm
          have := Eq.trans (Eq.symm hx) (kE x o ex h1 h2)
          cases this
      have t3 := same_upd (o := .lst ((gs.map fun e => V.ref e.2.1) ++ [V.ref u2])) hx
      refine k _ x (fun b o eb h1 h2 => t3 _ _ (kE b o eb h1 h2)) hxH ⟨gs ++ [(zpart c, u2, r2)], ?_, ?_, fun e he => ?_⟩ (F9.same t3)
      · unfold moved
        rw [List.map_append, eg]
        rfl
      · rw [upd_same, List.map_append]
        rfl
      · rcases List.mem_append.mp he with he | he
        · exact ((pg8.2 e he).same t2).same t3
        · rw [List.mem_singleton] at he
          subst he
          exact pz.same t3
end
end Cf
namespace Cf
open PySem L2
theorem cut_from (l : List V) {k : Nat} (h : k ≤ l.length) : cutV l (some (k : Int)) none = l.drop k := by
  unfold cutV
  rw [HT.sIx_nat, HT.sIx_none, show min k l.length = k by omega]
  exact List.take_of_length_le (by rw [List.length_drop]; exact Nat.le_refl _)
theorem cut_upto (l : List V) {k : Nat} (h : k ≤ l.length) : cutV l none (some (k : Int)) = l.take k := by
  unfold cutV
  rw [HT.sIx_none, HT.sIx_nat, show min k l.length = k by omega]
  rfl
/-- a folio, its dict, a list of parts, the parts -/
abbrev C4 := Addr × Addr × Addr × List Pt
structure W4 (C : Addr) (H : Hp) (fl dl : Addr) (cs : List C4) : Prop where
  fs : H fl = some (.lst (cs.map fun x => V.ref x.1))
  ds : H dl = some (.lst (cs.map fun x => V.ref x.2.2.1))
  at_ : ∀ (j : Nat) (x : C4), cs[j]? = some x → FolAt C H x.1 x.2.1 x.2.2.2 ∧ PartsAt H x.2.2.1 x.2.2.2 ∧ OK x.2.2.2
  len : cs.length = 4
theorem W4.same {C : Addr} {H H' : Hp} {fl dl : Addr} {cs : List C4} (h : W4 C H fl dl cs) (s : Same H H') : W4 C H' fl dl cs :=
  ⟨s _ _ h.fs, s _ _ h.ds, fun j x e => ⟨(h.at_ j x e).1.same s, (h.at_ j x e).2.1.same s, (h.at_ j x e).2.2⟩, h.len⟩
/-- no list of ints is a list that begins with an object -/
theorem ints_ne {H : Hp} {r l : Addr} {xs : List Int} {y : Addr} {ys : List V} (h : H r = some (.lst (xs.map V.int))) (g : H l = some (.lst (V.ref y :: ys))) : r ≠ l := fun z => by
  rw [z, g] at h
  injection h with h
  injection h with h
  cases xs with
  | nil => cases h
  | cons x r => cases h
theorem FolAt.putR {C : Addr} {H : Hp} {p d l : Addr} {ps : List Pt} {y : Addr} {ys : List V} {o : HO} (h : FolAt C H p d ps) (g : H l = some (.lst (V.ref y :: ys))) : FolAt C (upd H l o) p d ps := by
  obtain ⟨dx, es, e, h1, h2, h3⟩ := h.ex
  exact ⟨dx, es, e, (upd_ne (ne_of h1 g (by intro z; cases z))).trans h1, (upd_ne (ne_of h2 g (by intro z; cases z))).trans h2, fun x hx => (upd_ne (ints_ne (h3 x hx) g)).trans (h3 x hx)⟩
theorem PartsAt.putR {H : Hp} {a l : Addr} {ps : List Pt} {y : Addr} {ys : List V} {o : HO} (h : PartsAt H a ps) (g : H l = some (.lst (V.ref y :: ys))) (n : a ≠ l) : PartsAt (upd H l o) a ps := by
  obtain ⟨fs, e, h1, h2⟩ := h
  exact ⟨fs, e, (upd_ne n).trans h1, fun x hx => ⟨(upd_ne (ne_of (h2 x hx).1 g (by intro z; cases z))).trans (h2 x hx).1, (upd_ne (ints_ne (h2 x hx).2 g)).trans (h2 x hx).2⟩⟩
theorem fol_ne {C : Addr} {H : Hp} {p d q e : Addr} {ps : List Pt} (F : FolAt C H p d ps) (hq : H q = none) (he : H e = none) : p ≠ q ∧ d ≠ e := by
  obtain ⟨_, _, _, h1, h2, _⟩ := F.ex
  exact ⟨ne_of_none h1 hq, ne_of_none h2 he⟩
theorem set_self {α : Type} : ∀ {l : List α} {k : Nat} {x : α}, l[k]? = some x → l.set k x = l
  | [], _, _, h => by simp at h
  | y :: r, 0, x, h => by
    have : y = x := Option.some.inj h
    rw [this]
    rfl
  | y :: r, k + 1, x, h => by
    show y :: r.set k x = y :: r
    rw [set_self (l := r) h]
theorem W4.move {C : Addr} {H H' : Hp} {fl dl l : Addr} {cs : List C4} {k : Nat} {y : C4} {qs : List Pt} (h : W4 C H fl dl cs) (hk : cs[k]? = some y)
    (nf : ∀ (i j : Nat) (u v : C4), cs[i]? = some u → cs[j]? = some v → i ≠ j → u.1 ≠ v.1 ∧ u.2.1 ≠ v.2.1) (na : ∀ (j : Nat) (x : C4), cs[j]? = some x → x.2.2.1 ≠ dl) (nfd : fl ≠ dl)
    (kp : Keep y.1 y.2.1 H H') (hl : H l = none) (hp : PartsAt H' l qs) (hf : FolAt C H' y.1 y.2.1 qs) (ok : OK qs) :
    W4 C (upd H' dl (.lst ((cs.map fun x => V.ref x.2.2.1).set k (.ref l)))) fl dl (cs.set k (y.1, y.2.1, l, qs)) := by
  have hy := h.at_ k y hk
  obtain ⟨_, _, _, y1, y2, _⟩ := hy.1.ex
  have lst_keep : ∀ {b : Addr} {xs : List V}, H b = some (.lst xs) → H' b = some (.lst xs) := fun hb => kp _ _ hb (ne_of hb y1 (by intro z; cases z)) (ne_of hb y2 (by intro z; cases z))
  have ed := lst_keep h.ds
  obtain ⟨x0, r0, ec⟩ : ∃ x0 r0, (cs.map fun x => V.ref x.2.2.1) = V.ref x0 :: r0 := by
    cases hc : cs with
    | nil => have := h.len; rw [hc] at this; cases this
    | cons x r => exact ⟨x.2.2.1, r.map (fun x => V.ref x.2.2.1), rfl⟩
  have ed' := ed
  rw [ec] at ed'
  have nld : l ≠ dl := (ne_of_none h.ds hl).symm
  have hkl : k < cs.length := get_lt hk
  refine ⟨?_, ?_, fun j x hx => ?_, by rw [List.length_set]; exact h.len⟩
  · rw [upd_ne nfd, lst_keep h.fs]
    refine congrArg (fun l => some (HO.lst l)) ?_
    rw [List.map_set]
    exact (set_self (map_get (f := fun x : C4 => V.ref x.1) hk)).symm
  · rw [upd_same, List.map_set]
  · rw [List.getElem?_set] at hx
    by_cases hj : k = j
    · rw [if_pos hj, if_pos hkl] at hx
      cases hx
      exact ⟨hf.putR ed', hp.putR ed' nld, ok⟩
    · rw [if_neg hj] at hx
      have hj4 := h.at_ j x hx
      have ne := nf j k x y hx hk fun z => hj z.symm
      exact ⟨(hj4.1.keep hy.1 kp ne.1 ne.2).putR ed', (hj4.2.1.keep hy.1 kp).putR ed' (na j x hx), hj4.2.2⟩
end Cf
namespace Cf
open PySem L2
def four (f0 f1 f2 f3 d0 d1 d2 d3 a b : Addr) (ps qs : List Pt) : List C4 := [(f0, d0, a, ps), (f1, d1, a, ps), (f2, d2, b, qs), (f3, d3, a, ps)]
theorem four_ne {f0 f1 f2 f3 d0 d1 d2 d3 am ow : Addr} {ps qs : List Pt} (n01 : f0 ≠ f1 ∧ d0 ≠ d1) (n02 : f0 ≠ f2 ∧ d0 ≠ d2) (n12 : f1 ≠ f2 ∧ d1 ≠ d2) (n03 : f0 ≠ f3 ∧ d0 ≠ d3) (n13 : f1 ≠ f3 ∧ d1 ≠ d3) (n23 : f2 ≠ f3 ∧ d2 ≠ d3) :
    ∀ (i j : Nat) (u v : C4), (four f0 f1 f2 f3 d0 d1 d2 d3 am ow ps qs)[i]? = some u → (four f0 f1 f2 f3 d0 d1 d2 d3 am ow ps qs)[j]? = some v → i ≠ j → u.1 ≠ v.1 ∧ u.2.1 ≠ v.2.1 := by
  intro i j u v hu hv hij
  match i, hu, j, hv with
  | 0, hu, 0, hv => exact absurd rfl hij
  | 0, hu, 1, hv => cases hu; cases hv; exact n01
  | 0, hu, 2, hv => cases hu; cases hv; exact n02
  | 0, hu, 3, hv => cases hu; cases hv; exact n03
  | 1, hu, 0, hv => cases hu; cases hv; exact ⟨n01.1.symm, n01.2.symm⟩
  | 1, hu, 1, hv => exact absurd rfl hij
  | 1, hu, 2, hv => cases hu; cases hv; exact n12
  | 1, hu, 3, hv => cases hu; cases hv; exact n13
  | 2, hu, 0, hv => cases hu; cases hv; exact ⟨n02.1.symm, n02.2.symm⟩
  | 2, hu, 1, hv => cases hu; cases hv; exact ⟨n12.1.symm, n12.2.symm⟩
  | 2, hu, 2, hv => exact absurd rfl hij
  | 2, hu, 3, hv => cases hu; cases hv; exact n23
  | 3, hu, 0, hv => cases hu; cases hv; exact ⟨n03.1.symm, n03.2.symm⟩
  | 3, hu, 1, hv => cases hu; cases hv; exact ⟨n13.1.symm, n13.2.symm⟩
  | 3, hu, 2, hv => cases hu; cases hv; exact ⟨n23.1.symm, n23.2.symm⟩
  | 3, hu, 3, hv => exact absurd rfl hij
  | n + 4, hu, _, _ => cases hu
  | _, _, n + 4, hv => cases hv
theorem five_items {j : Nat} (hj : j < 4) {i : Nat} {v : V} (h : ([.int 0, .int 1, .int 2, .int 3, .int (j : Int)] : List V)[i]? = some v) : ∃ m : Nat, m < 4 ∧ v = .int (m : Int) := by
  match i, h with
  | 0, h => cases h; exact ⟨0, by decide, rfl⟩
  | 1, h => cases h; exact ⟨1, by decide, rfl⟩
  | 2, h => cases h; exact ⟨2, by decide, rfl⟩
  | 3, h => cases h; exact ⟨3, by decide, rfl⟩
  | 4, h => cases h; exact ⟨j, hj, rfl⟩
theorem turn_parts {H : Hp} {l ow : Addr} {gs : List Trip} {ps : List Pt} {k : Nat} (eg : gs.map (·.1) = ps) (h : PartsE H l gs) (g : H ow = some (.lst ((gs.drop k).map (fun e => V.ref e.2.1) ++ (gs.take k).map fun e => V.ref e.2.1))) : PartsAt H ow (ps.drop k ++ ps.take k) := by
  refine ⟨gs.drop k ++ gs.take k, by rw [List.map_append, List.map_drop, List.map_take, eg], by rw [g, List.map_append], fun e he => h.2 e ?_⟩
  rcases List.mem_append.mp he with he | he
  · exact List.mem_of_mem_drop he
  · exact List.mem_of_mem_take he
section
variable {P : Program} {w : World} {K : PySem.W.Frag} {mg : Str → Option Value} {base : Heap} {C : Addr}
/-! ### law -/
abbrev N50 : List Str := ["_law_script", "_law_parts_here", "_law_cell", "_law_at", "_law_other_way", "_law_first", "_law_text", "_law_folios", "_law_dues", "_law_k"]
abbrev s50 : Stmt := top 50
theorem sc50 : FnScope N50 ["_law_script"] (defScope s50) := ⟨rfl, rfl, rfl, by decide +kernel, rfl, by decide +kernel, by decide +kernel⟩
def spLaw (K : PySem.W.Frag) : Sp := fun vs H Q _ => ∃ (a : Addr) (ns : List Int), vs = [.ref a] ∧ SqL K H a (ns.map V.int) ∧ ns.length ≤ 63 ∧ ∀ H', Q (.bl true) H'
theorem ok_law {f : Addr} {fd : FuncData} (F : Fun K "law" "law" s50 f fd) (T : Txt mg) (L : Cl K mg C)
    (D1 : Def P w K mg base "_law_parts" ["_law_script"] 3 (spLParts K)) (D2 : Def P w K mg base "_law_mixed" ["_law_cell", "_law_k"] 1 spMixed) (D3 : Def P w K mg base "_law_cell_at" ["_law_script", "_law_k"] 1 (spCell K))
    (D4 : Def P w K mg base "_law_many_parts" ["_law_cell"] 1 spMany) (D5 : Def P w K mg base "_law_put_all" ["_law_parts_here"] 6 (spPutAll C)) (D6 : MDef P w K mg base C "written" ["self"] 5 (spWritten C))
    (D7 : Def P w K mg base "read_folio" ["text"] 6 (spRead C)) (D8 : Def P w K mg base "_law_written" ["_law_parts_here"] 3 spLWritten) (D9 : Def P w K mg base "_law_same" ["_law_folio", "_law_parts_here"] 6 (spSame C))
    (D10 : Def P w K mg base "_law_moved" ["_law_folio", "_law_parts_here", "_law_cell"] 6 (spMoved C)) : FnOk P w K mg base CX0 7 f fd ["_law_script"] (spLaw K) := by
  refine F.ok sc50 (fun vs H Q E h => ?_) (fun cdv A outer s H vs Q E hr h => ?_)
  · obtain ⟨a, ns, rfl, _⟩ := h
    rfl
  · obtain ⟨sa, ns, rfl, hS, hlen, k⟩ := h
    have hr1 : Room 1 _ := hr.mono (by decide)
    have hr3 : Room 3 _ := hr.mono (by decide)
    have hr5 : Room 5 _ := hr.mono (by decide)
    refine ⟨_, pss_cons (ps_set (i := 1) sc50.nd rfl (.inl rfl) (pe_def D1 hr3 rfl (pa_cons (pv 0) pa_nil)))
      (pss_cons (ps_set (i := 2) sc50.nd rfl (.inl rfl) (pe_def D2 hr1 rfl (pa_cons (pe_def D3 hr1 rfl (pa_cons (pv 0) (pa_cons pe_int pa_nil))) (pa_cons pe_int pa_nil))))
      (pss_cons (ps_if (pt_cmpR op_eq (pe_op op_mod (pe_op op_fdiv (pv 2) pe_int) pe_int) pe_int (nomark _)) (pss_one (ps_set (i := 1) sc50.nd rfl (.inl rfl) (pe_def D4 hr1 rfl (pa_cons (pe_op op_fdiv (pv 2) pe_int) pa_nil)))) pss_nil)
      (pss_cons (ps_set (i := 3) sc50.nd rfl (.inl rfl) (pe_op op_mod (pv 2) (pe_op op_add (pe_callB call_len_seq (by rfl) T.len PySem.boot_len (pa_cons (pv 1) pa_nil)) pe_int)))
      (pss_cons (ps_set (i := 4) sc50.nd rfl (.inl rfl) (pe_op op_cat (pe_slice sl_list (pv 1) (po_some (pv 3)) po_none) (pe_slice sl_list (pv 1) po_none (po_some (pv 3)))))
      (pss_cons (ps_set (i := 5) sc50.nd rfl (.inl rfl) (pe_def D5 hr rfl (pa_cons (pv 1) pa_nil)))
      (pss_cons (ps_set (i := 6) sc50.nd rfl (.inl rfl) (pe_mdef0 D6 (pv 5) L.cl hr5))
      (pss_cons (ps_set (i := 7) sc50.nd rfl (.inl rfl) (pe_lst (pa_cons (pv 5) (pa_cons (pe_def D7 hr rfl (pa_cons (pv 6) pa_nil)) (pa_cons (pe_def D7 hr rfl (pa_cons (pe_def D8 hr3 rfl (pa_cons (pv 4) pa_nil)) pa_nil)) (pa_cons (pe_def D7 hr rfl (pa_cons (pv 6) pa_nil)) pa_nil))))))
      (pss_cons (ps_set (i := 8) sc50.nd rfl (.inl rfl) (pe_lst (pa_cons (pv 1) (pa_cons (pv 1) (pa_cons (pv 4) (pa_cons (pv 1) pa_nil))))))
      (pss_cons (ps_if (PW.pt (pw_or (pt_not (pt_val (pe_isi T.isi rfl rfl T.str PyProof.Rows.boot_str (pv 6)))) (pw_or1 (pt_cmpR op_ne (pv 6) (pe_def D8 hr3 rfl (pa_cons (pv 1) pa_nil)) (nomark _))))) (pss_one (ps_ret pe_bl)) pss_nil)
      (pss_cons (ps_for PassesOwn.never rfl (pi_range1 (by rfl) T.range (pa_cons pe_int pa_nil)) (pg_name (i := 9) sc50.nd rfl (.inl rfl))
        (pss_one (ps_if (pt_not (pt_val (pe_def D9 hr rfl (pa_cons (pe_ix ix_list (pv 7) (pv 9) (fun _ _ => rfl)) (pa_cons (pe_ix ix_list (pv 8) (pv 9) (fun _ _ => rfl)) pa_nil))))) (pss_one (ps_ret pe_bl)) pss_nil)))
      (pss_cons (ps_set (i := 9) sc50.nd rfl (.inl rfl) (pe_op op_mod (pe_op op_fdiv (pv 2) pe_int) pe_int))
      (pss_cons (ps_asg (pe_def D10 hr rfl (pa_cons (pe_ix ix_list (pv 7) (pv 9) (fun _ _ => rfl)) (pa_cons (pe_ix ix_list (pv 8) (pv 9) (fun _ _ => rfl)) (pa_cons (pe_op op_fdiv (pv 2) pe_int) pa_nil)))) (pg_sub (pv 8) (pv 9) set_list))
      (pss_cons (ps_for PassesOwn.never rfl (pi_list (pe_lst (pa_cons pe_int (pa_cons pe_int (pa_cons pe_int (pa_cons pe_int (pa_cons (pv 9) pa_nil))))))) (pg_name (i := 3) sc50.nd rfl (.inl rfl))
        (pss_one (ps_if (PW.pt (pw_or (pt_not (pt_val (pe_def D9 hr rfl (pa_cons (pe_ix ix_list (pv 7) (pv 3) (fun _ _ => rfl)) (pa_cons (pe_ix ix_list (pv 8) (pv 3) (fun _ _ => rfl)) pa_nil)))))
          (pw_or1 (pt_not (pt_val (pe_def D9 hr rfl (pa_cons (pe_def D7 hr rfl (pa_cons (pe_mdef0 D6 (pe_ix ix_list (pv 7) (pv 3) (fun _ _ => rfl)) L.cl hr5) pa_nil)) (pa_cons (pe_ix ix_list (pv 8) (pv 3) (fun _ _ => rfl)) pa_nil)))))))) (pss_one (ps_ret pe_bl)) pss_nil)))
      (pss_one (ps_ret pe_bl))))))))))))))), ?_⟩
    -- the parts
    refine ⟨_, rfl, sa, ns, rfl, hS, fun H1 l1 s1 hl1 p1 => ?_⟩
    refine ⟨_, rfl, sa, ns, 8, rfl, s1.seq hS, _, 8, rfl, ?_⟩
    rw [show mixed (cellAt ns 8) 8 = lawCell ns from rfl]
    have c0 : 0 ≤ lawCell ns := mixed_nn _ _
    have lok := lawParts_ok ns
    refine ⟨_, rfl, _, _, rfl, rfl, ⟨by decide, by decide⟩, _, _, rfl, rfl, (by show (0 : Int) < 40; decide), rfl, _, rfl, ite2 (fun e => ?br1) (fun e => ?br2)⟩
    case' br1 =>
      refine ⟨_, rfl, _, _, rfl, rfl, ⟨by decide, by decide⟩, _, rfl, fun H3 l3 s3 hl3 p3 => ?_⟩
      have M : PartsAt H3 l3 (lawParts ns) := by
        unfold lawParts
        rw [if_pos (V.int.inj (of_decide_eq_true e))]
        exact p3
      obtain ⟨am, rfl⟩ : ∃ x, x = l3 := ⟨_, rfl⟩
      obtain ⟨Hm, rfl⟩ : ∃ x, x = H3 := ⟨_, rfl⟩
    case' br2 =>
      have M : PartsAt H1 l1 (lawParts ns) := by
        unfold lawParts
        rw [if_neg fun z => e (decide_eq_true (congrArg V.int z))]
        exact p1
      obtain ⟨am, rfl⟩ : ∃ x, x = l1 := ⟨_, rfl⟩
      obtain ⟨Hm, rfl⟩ : ∃ x, x = H1 := ⟨_, rfl⟩
    all_goals
      have ok := lok.ok (by decide)
      obtain ⟨gs, eg, pg⟩ := id M
      have gl : gs.length = (lawParts ns).length := by rw [← eg, List.length_map]
      have pl := ok.len
      -- at
      refine ⟨_, rfl, _, rfl, _, _, rfl, .inl (SqL.of pg.1), _, _, rfl, rfl, _, _, rfl, rfl, (by show (0 : Int) < ((gs.map fun e => V.ref e.2.1).length : Nat) + 1; omega), ?_⟩
      rw [List.length_map, gl]
      have a0 : 0 ≤ lawCell ns % (((lawParts ns).length : Nat) + 1 : Int) := Int.emod_nonneg _ (by omega)
      have a1 : lawCell ns % (((lawParts ns).length : Nat) + 1 : Int) < ((lawParts ns).length : Nat) + 1 := Int.emod_lt_of_pos _ (by omega)
      obtain ⟨kk, ek, hk⟩ : ∃ kk : Nat, lawCell ns % (((lawParts ns).length : Nat) + 1 : Int) = (kk : Int) ∧ kk ≤ (lawParts ns).length := ⟨(lawCell ns % (((lawParts ns).length : Nat) + 1 : Int)).toNat, by omega, by omega⟩
      have ek' : (fun i j : Int => V.int (i % j)) (lawCell ns) (((lawParts ns).length : Nat) + 1 : Int) = V.int (kk : Int) := congrArg V.int ek
      rw [ek']
      have lok2 := lok.turn kk
      have ok2 := lok2.ok (by decide)
      -- the other way
      refine ⟨_, rfl, _, rfl, _, rfl, _, _, rfl, SqL.of pg.1, fun c1 hc1 => ?_⟩
      rw [cut_from _ (by rw [List.length_map, gl]; exact hk), ← List.map_drop]
      have t1 := same_upd (o := .lst ((gs.drop kk).map fun e => V.ref e.2.1)) hc1
      refine ⟨_, rfl, _, rfl, _, rfl, _, _, rfl, SqL.of (t1 _ _ pg.1), fun c2 hc2 => ?_⟩
      rw [cut_upto _ (by rw [List.length_map, gl]; exact hk), ← List.map_take]
      have t2 := same_upd (o := .lst ((gs.take kk).map fun e => V.ref e.2.1)) hc2
      refine ⟨c1, c2, _, _, rfl, rfl, t2 _ _ upd_same, upd_same, ?_, fun ow how => ?_⟩
      · rw [List.length_map, List.length_map, List.length_drop, List.length_take, gl]
        exact five' (by omega)
      have t3 := (t1.trans t2).trans (same_upd (o := .lst ((gs.drop kk).map (fun e => V.ref e.2.1) ++ (gs.take kk).map fun e => V.ref e.2.1)) how)
      have pgt := pg.same t3
      have PO := turn_parts (k := kk) eg pgt (upd_same (o := .lst ((gs.drop kk).map (fun e => V.ref e.2.1) ++ (gs.take kk).map fun e => V.ref e.2.1)))
      have PM := M.same t3
      -- the first folio
      refine ⟨_, rfl, _, lawParts ns, rfl, PM, ok, fun H5 f0 d0 s5 hf0 hd0 F0 => ?_⟩
      obtain ⟨x0, es0, _, g0, _, _⟩ := id F0.ex
      refine ⟨_, rfl, f0, x0, _, rfl, g0, flds_no _ _ (by decide +kernel) (by decide +kernel), f0, d0, lawParts ns, rfl, F0, ok, fun H6 s6 => ?_⟩
      have F06 := F0.same s6
      -- the folios
      refine ⟨_, rfl, _, rfl, lawParts ns, rfl, ok, fun H7 f1 d1 s7 hf1 hd1 F1 => ?_⟩
      have n01 := fol_ne F06 hf1 hd1
      refine ⟨_, rfl, ow, _, rfl, PO.same ((s5.trans s6).trans s7), ok2, fun H8 s8 => ?_⟩
      have F08 := F06.same (s7.trans s8)
      have F18 := F1.same s8
      refine ⟨_, rfl, ok2, fun H9 f2 d2 s9 hf2 hd2 F2 => ?_⟩
      have n02 := fol_ne F08 hf2 hd2
      have n12 := fol_ne F18 hf2 hd2
      refine ⟨_, rfl, lawParts ns, rfl, ok, fun H10 f3 d3 s10 hf3 hd3 F3 => ?_⟩
      have n03 := fol_ne (F08.same s9) hf3 hd3
      have n13 := fol_ne (F18.same s9) hf3 hd3
      have n23 := fol_ne F2 hf3 hd3
      have s510 := ((((s5.trans s6).trans s7).trans s8).trans s9).trans s10
      refine ⟨(by show 4 ≤ sizeLine; decide), fun fl hfl => ?_⟩
      have s11 := same_upd (o := .lst [.ref f0, .ref f1, .ref f2, .ref f3]) hfl
      refine ⟨_, rfl, _, rfl, _, rfl, _, rfl, (by show 4 ≤ sizeLine; decide), fun dl hdl => ?_⟩
      have sE := s11.trans (same_upd (o := .lst [.ref am, .ref am, .ref ow, .ref am]) hdl)
      have nfd : fl ≠ dl := ne_of_none upd_same hdl
      have PM10 := PM.same s510
      have PO10 := PO.same s510
      have F010 := (F08.same s9).same s10
      have F110 := (F18.same s9).same s10
      have F210 := F2.same s10
      have hfl0 := hfl
      have ndl : ∀ {b : Addr} {o : HO}, H10 b = some o → b ≠ dl := fun hb => ne_of_none (s11 _ _ hb) hdl
      have W : W4 C (upd (upd H10 fl (.lst [.ref f0, .ref f1, .ref f2, .ref f3])) dl (.lst [.ref am, .ref am, .ref ow, .ref am])) fl dl (four f0 f1 f2 f3 d0 d1 d2 d3 am ow (lawParts ns) ((lawParts ns).drop kk ++ (lawParts ns).take kk)) := by
        refine ⟨(upd_ne nfd).trans upd_same, upd_same, fun j x hx => ?_, rfl⟩
        match j, hx with
        | 0, hx => cases hx; exact ⟨F010.same sE, PM10.same sE, ok⟩
        | 1, hx => cases hx; exact ⟨F110.same sE, PM10.same sE, ok⟩
        | 2, hx => cases hx; exact ⟨F210.same sE, PO10.same sE, ok2⟩
        | 3, hx => cases hx; exact ⟨F3.same sE, PM10.same sE, ok⟩
      have lk : ∀ (j : Nat) (x : C4), (four f0 f1 f2 f3 d0 d1 d2 d3 am ow (lawParts ns) ((lawParts ns).drop kk ++ (lawParts ns).take kk))[j]? = some x → LOK x.2.2.2 3000 := fun j x hx => by
        match j, hx with
        | 0, hx => cases hx; exact lok
        | 1, hx => cases hx; exact lok
        | 2, hx => cases hx; exact lok2
        | 3, hx => cases hx; exact lok
      have na : ∀ (j : Nat) (x : C4), (four f0 f1 f2 f3 d0 d1 d2 d3 am ow (lawParts ns) ((lawParts ns).drop kk ++ (lawParts ns).take kk))[j]? = some x → x.2.2.1 ≠ dl := fun j x hx => by
        obtain ⟨_, _, m1, _⟩ := PM10
        obtain ⟨_, _, m2, _⟩ := PO10
        match j, hx with
        | 0, hx => cases hx; exact ndl m1
        | 1, hx => cases hx; exact ndl m1
        | 2, hx => cases hx; exact ndl m2
        | 3, hx => cases hx; exact ndl m1
      have nf := four_ne (am := am) (ow := ow) (ps := lawParts ns) (qs := (lawParts ns).drop kk ++ (lawParts ns).take kk) n01 n02 n12 n03 n13 n23
      have Wm : PartsAt (upd (upd H10 fl (.lst [.ref f0, .ref f1, .ref f2, .ref f3])) dl (.lst [.ref am, .ref am, .ref ow, .ref am])) am (lawParts ns) := PM10.same sE
      show tSeq _ _ _ _ (upd (upd H10 fl (.lst [.ref f0, .ref f1, .ref f2, .ref f3])) dl (.lst [.ref am, .ref am, .ref ow, .ref am]))
      generalize (upd (upd H10 fl (.lst [.ref f0, .ref f1, .ref f2, .ref f3])) dl (.lst [.ref am, .ref am, .ref ow, .ref am])) = H12 at W Wm ⊢
      generalize four f0 f1 f2 f3 d0 d1 d2 d3 am ow (lawParts ns) ((lawParts ns).drop kk ++ (lawParts ns).take kk) = cs at *
      have at4 : ∀ (m : Nat), m < 4 → ∃ x, cs[m]? = some x := fun m hm => lt_get (by rw [W.len]; exact hm)
      -- the text
      refine ⟨_, rfl, isi_str ⟨true, rfl, ?_⟩⟩
      refine iteF ?_
      refine ⟨_, rfl, _, rfl, am, _, rfl, Wm, ok, fun H13 s13 => ⟨rfl, _, rfl, ?_⟩⟩
      refine iteNS rfl ?_
      have W13 := W.same s13
      -- each folio is as it is due
      refine ⟨4, rfl, by decide, by decide, ?_⟩
      refine for_range (lo := 0) (n := 4) (fun i σ H' => ∃ v9, σ = [some (.ref sa), some (.ref am), some (.int (lawCell ns)), some (.int (kk : Int)), some (.ref ow), some (.ref f0), some (.str (S (text (lawParts ns)))), some (.ref fl), some (.ref dl), v9] ∧ Same H13 H')
        ⟨none, rfl, Same.refl _⟩ (fun i σ H' hi hp => ?_) (fun σ H' hp => ?_)
      · obtain ⟨v9, rfl, s14⟩ := hp
        have W14 := W13.same s14
        obtain ⟨x, hx⟩ := at4 i hi
        have hx3 := W14.at_ i x hx
        refine ⟨_, rfl, _, rfl, fl, _, _, _, rfl, rfl, SqL.of W14.fs, at_of (by rw [Int.zero_add]) (map_get (f := fun x : C4 => V.ref x.1) hx), _, rfl, _, rfl, dl, _, _, _, rfl, rfl, SqL.of W14.ds, at_of (by rw [Int.zero_add]) (map_get (f := fun x : C4 => V.ref x.2.2.1) hx), x.1, x.2.1, x.2.2.1, x.2.2.2, rfl, hx3.1, hx3.2.1, hx3.2.2, fun H15 s15 => ⟨true, rfl, ?_⟩⟩
        refine iteF ?_
        exact ⟨some (.int (0 + ((i : Nat) : Int))), rfl, s14.trans s15⟩
      obtain ⟨v9, rfl, s14⟩ := hp
      have W14 := W13.same s14
      -- one of them is changed
      obtain ⟨j, ej, hj⟩ : ∃ j : Nat, lawCell ns / 7 % 4 = (j : Int) ∧ j < 4 := ⟨(lawCell ns / 7 % 4).toNat, by omega, by omega⟩
      have ej' : (fun i j : Int => V.int (i % j)) (lawCell ns / 7) 4 = V.int (j : Int) := congrArg V.int ej
      refine ⟨_, rfl, _, _, rfl, rfl, ⟨by decide, by decide⟩, _, _, rfl, rfl, (by show (0 : Int) < 4; decide), ?_⟩
      rw [ej']
      obtain ⟨y, hy⟩ := at4 j hj
      have hy3 := W14.at_ j y hy
      refine ⟨_, rfl, _, rfl, fl, _, _, _, rfl, rfl, SqL.of W14.fs, atI_nat (map_get (f := fun x : C4 => V.ref x.1) hy), _, rfl, _, rfl, dl, _, _, _, rfl, rfl, SqL.of W14.ds, atI_nat (map_get (f := fun x : C4 => V.ref x.2.2.1) hy), _, rfl, _, _, rfl, rfl, ⟨by decide, by decide⟩,
        y.1, y.2.1, y.2.2.1, y.2.2.2, lawCell ns / 28, rfl, hy3.1, hy3.2.1, lk j y hy, by omega, fun H15 l kp hl pl' fl' => ?_⟩
      have W15 := W14.move hy nf na nfd kp hl pl' fl' (moved_ok (lk j y hy) (lawCell ns / 28))
      have edl : H15 dl = some (.lst (cs.map fun x => V.ref x.2.2.1)) := by
        obtain ⟨_, _, _, y1, y2, _⟩ := hy3.1.ex
        exact kp _ _ W14.ds (ne_of W14.ds y1 (by intro z; cases z)) (ne_of W14.ds y2 (by intro z; cases z))
      refine ⟨_, rfl, _, rfl, dl, _, _, j, rfl, rfl, edl, ?_, ?_⟩
      · unfold ixN
        rw [List.length_map, W14.len, if_pos (by omega), if_pos (by omega)]
        rfl
      generalize upd H15 dl (.lst ((cs.map fun x => V.ref x.2.2.1).set j (.ref l))) = H16 at *
      generalize cs.set j (y.1, y.2.1, l, moved y.2.2.2 (lawCell ns / 28)) = ds at *
      have bt4 : ∀ (m : Nat), m < 4 → ∃ x, ds[m]? = some x := fun m hm => lt_get (by rw [W15.len]; exact hm)
      -- each is as it is due, and what is read from its text, too
      refine ⟨_, rfl, (by show 5 ≤ sizeLine; decide), fun tl htl => ?_⟩
      have s17 := same_upd (o := .lst [.int 0, .int 1, .int 2, .int 3, .int (j : Int)]) htl
      have etl : upd H16 tl (.lst [.int 0, .int 1, .int 2, .int 3, .int (j : Int)]) tl = some (.lst [.int 0, .int 1, .int 2, .int 3, .int (j : Int)]) := upd_same
      have W17 := W15.same s17
      refine ⟨tl, rfl, ⟨_, SqL.of etl⟩, for_list (K := K) (a := tl) (xs := [.int 0, .int 1, .int 2, .int 3, .int (j : Int)]) (fun i σ H' => ∃ v3, σ = [some (.ref sa), some (.ref am), some (.int (lawCell ns)), v3, some (.ref ow), some (.ref f0), some (.str (S (text (lawParts ns)))), some (.ref fl), some (.ref dl), some (.int (j : Int))] ∧ Same (upd H16 tl (.lst [.int 0, .int 1, .int 2, .int 3, .int (j : Int)])) H')
        ⟨_, rfl, Same.refl _⟩ (fun i σ H' _ hp => by obtain ⟨_, _, s18⟩ := hp; exact SqL.of (s18 _ _ etl)) (fun i v σ H' hv hp => ?_) (fun σ H' hp => ?_)⟩
      · obtain ⟨v3, rfl, s18⟩ := hp
        have W18 := W17.same s18
        obtain ⟨m, hm, rfl⟩ := five_items hj hv
        obtain ⟨x, hx⟩ := bt4 m hm
        have hx3 := W18.at_ m x hx
        refine ⟨_, rfl, _, rfl, fl, _, _, _, rfl, rfl, SqL.of W18.fs, atI_nat (map_get (f := fun x : C4 => V.ref x.1) hx), _, rfl, _, rfl, dl, _, _, _, rfl, rfl, SqL.of W18.ds, atI_nat (map_get (f := fun x : C4 => V.ref x.2.2.1) hx), x.1, x.2.1, x.2.2.1, x.2.2.2, rfl, hx3.1, hx3.2.1, hx3.2.2, fun H19 s19 => ⟨true, rfl, ?_⟩⟩
        refine iteF ?_
        have W19 := W18.same s19
        have hx4 := W19.at_ m x hx
        obtain ⟨dx, _, _, q1, _, _⟩ := id hx4.1.ex
        refine ⟨_, rfl, _, rfl, fl, _, _, _, rfl, rfl, SqL.of W19.fs, atI_nat (map_get (f := fun x : C4 => V.ref x.1) hx), x.1, dx, _, rfl, q1, flds_no _ _ (by decide +kernel) (by decide +kernel), x.1, x.2.1, x.2.2.2, rfl, hx4.1, hx4.2.2, fun H20 s20 => ?_⟩
        have W20 := W19.same s20
        refine ⟨x.2.2.2, rfl, hx4.2.2, fun H21 g d s21 hg hd Fg => ?_⟩
        have W21 := W20.same s21
        have hx5 := W21.at_ m x hx
        refine ⟨_, rfl, _, rfl, dl, _, _, _, rfl, rfl, SqL.of W21.ds, atI_nat (map_get (f := fun x : C4 => V.ref x.2.2.1) hx), g, d, x.2.2.1, x.2.2.2, rfl, Fg, hx5.2.1, hx5.2.2, fun H22 s22 => ⟨true, rfl, ?_⟩⟩
        refine iteF ?_
        exact ⟨some (.int (m : Int)), rfl, (((s18.trans s19).trans s20).trans s21).trans s22⟩
      · obtain ⟨v3, rfl, s18⟩ := hp
        exact k _
end
end Cf
namespace Cf
open PySem L2
theorem at_mk {K : PySem.W.Frag} {h : Heap} {mg : Str → Option Value} {name : Str} {st : Stmt} {ps : List Str} {f : Addr} {oc : Value} {od an : Option Addr} {osl : Array (Option Value)} {kV doc pm cdv ct : Value} (X : K.In h) (G : h.Ns mainGlobals mg)
    (hb : ∀ (kV doc pm : Value) (an : Option Addr) (cdv ct : Value) (us : List Value), us.length = ps.length → bindArgs (PySem.W.fnOf name name (defArgs st) (defBody st) (defScope st) .none kV doc pm an cdv ct) ⟨us, []⟩ = pure (ps.zip us))
    (a : PySem.W.nsIn K mainGlobals name = some (some (.ref f))) (l : K.lookup f = some ⟨oc, od, .func (PySem.W.fnOf name name (defArgs st) (defBody st) (defScope st) .none kV doc pm an cdv ct), osl⟩)
    (c : PySem.W.codeIn K cdv name = true) (k : PySem.W.keepIn K (.ref f) = true) : At K mg name st ps :=
  have F := fun_mk (st := st) l c k
  ⟨f, _, F, PySem.W.mg_of X G a, F.binds hb⟩
theorem mat_mk {K : PySem.W.Frag} {C : Addr} {name qual : Str} {st : Stmt} {ps : List Str} {f : Addr} {oc : Value} {od an : Option Addr} {osl : Array (Option Value)} {kV doc pm cdv ct : Value}
    (hb : ∀ (kV doc pm : Value) (an : Option Addr) (cdv ct : Value) (us : List Value), us.length = ps.length → bindArgs (PySem.W.fnOf name qual (defArgs st) (defBody st) (defScope st) .none kV doc pm an cdv ct) ⟨us, []⟩ = pure (ps.zip us))
    (a : PySem.W.findIn K (.ref C) name = some (some (.ref f))) (i : PySem.W.isFn K (.ref f) = true) (l : K.lookup f = some ⟨oc, od, .func (PySem.W.fnOf name qual (defArgs st) (defBody st) (defScope st) .none kV doc pm an cdv ct), osl⟩)
    (c : PySem.W.codeIn K cdv qual = true) (k : PySem.W.keepIn K (.ref f) = true) : MAt K C name qual st ps :=
  have F := fun_mk (st := st) l c k
  ⟨f, _, F, ⟨a, i, k⟩, F.binds hb⟩
/-- a text constant of the module -/
theorem conS {K : PySem.W.Frag} {h : Heap} {mg : Str → Option Value} {name : Str} {l : List Nat} {z : Str} {t : Tok} (X : K.In h) (G : h.Ns mainGlobals mg) (e : z = S l) (a : PySem.W.nsIn K mainGlobals name = some (some (.str z t))) : ∃ t, mg name = some (.str (S l) t) := by
  subst e
  exact ⟨t, PySem.W.mg_of X G a⟩
theorem conI {K : PySem.W.Frag} {h : Heap} {mg : Str → Option Value} {name : Str} {i : Int} {t : Tok} (X : K.In h) (G : h.Ns mainGlobals mg) (a : PySem.W.nsIn K mainGlobals name = some (some (.int i t))) : ∃ t, mg name = some (.int i t) := ⟨t, PySem.W.mg_of X G a⟩
theorem head_str : Str.ofString "CF1" = S [67, 70, 49] := by decide +kernel
/-- what the top has written -/
structure Facts (K : PySem.W.Frag) (mg : Str → Option Value) (C : Addr) : Prop where
  T : Txt mg
  L : Cl K mg C
  a11 : At K mg "sign_of_number" s11 ["number"]
  a12 : At K mg "number_of_sign" s12 ["sign"]
  a13 : At K mg "signs_text" s13 ["numbers"]
  a14 : At K mg "numbers_of_text" s14 ["text"]
  a15 : At K mg "two_numbers" s15 ["number"]
  a16 : At K mg "one_number" s16 ["high", "low"]
  a19 : At K mg "check_of" s19 ["numbers"]
  a24 : At K mg "is_small" s24 ["thing", "most"]
  a25 : At K mg "is_six_bits" s25 ["thing"]
  a26 : At K mg "is_part" s26 ["thing"]
  a27 : At K mg "need_part" s27 ["part"]
  a28 : At K mg "part_numbers" s28 ["part"]
  a29 : At K mg "part_at" s29 ["numbers", "place"]
  a35 : At K mg "read_folio" s35 ["text"]
  a37 : At K mg "_law_cell_at" s37 ["_law_script", "_law_k"]
  a38 : At K mg "_law_mixed" s38 ["_law_cell", "_law_k"]
  a39 : At K mg "_law_signs" s39 []
  a40 : At K mg "_law_name" s40 ["_law_cell"]
  a41 : At K mg "_law_check" s41 ["_law_numbers"]
  a42 : At K mg "_law_part_numbers" s42 ["_law_part"]
  a43 : At K mg "_law_sealed" s43 ["_law_numbers"]
  a44 : At K mg "_law_written" s44 ["_law_parts_here"]
  a45 : At K mg "_law_parts" s45 ["_law_script"]
  a46 : At K mg "_law_same" s46 ["_law_folio", "_law_parts_here"]
  a47 : At K mg "_law_put_all" s47 ["_law_parts_here"]
  a48 : At K mg "_law_moved" s48 ["_law_folio", "_law_parts_here", "_law_cell"]
  a49 : At K mg "_law_many_parts" s49 ["_law_cell"]
  b0 : MAt K C "__init__" "Folio.__init__" m0 ["self"]
  b1 : MAt K C "need_there" "Folio.need_there" m1 ["self", "kind", "name"]
  b2 : MAt K C "put_part" "Folio.put_part" m2 ["self", "part"]
  b3 : MAt K C "take_part" "Folio.take_part" m3 ["self", "kind", "name"]
  b4 : MAt K C "numbers_of" "Folio.numbers_of" m4 ["self", "kind", "name"]
  b5 : MAt K C "names_of" "Folio.names_of" m5 ["self", "kind"]
  b6 : MAt K C "all_parts" "Folio.all_parts" m6 ["self"]
  b7 : MAt K C "written" "Folio.written" m7 ["self"]
theorem facts_ok {P : Program} {w : World} {K : PySem.W.Frag} {mg : Str → Option Value} {base : Heap} {C f : Addr} {fd : FuncData} (X : Facts K mg C) (F : Fun K "law" "law" s50 f fd) : FnOk P w K mg base CX0 7 f fd ["_law_script"] (spLaw K) := by
  have T := X.T
  have L := X.L
  have d11 := d_sign (P := P) (w := w) (base := base) X.a11 T
  have d12 := d_num (P := P) (w := w) (base := base) X.a12 T
  have d13 := d_signs X.a13 d11
  have d14 := d_nums X.a14 T d12
  have d15 := d_two (P := P) (w := w) (base := base) X.a15
  have d16 := d_one (P := P) (w := w) (base := base) X.a16
  have d19 := d_check (P := P) (w := w) (base := base) X.a19 T
  have d24 := d_small (P := P) (w := w) (base := base) X.a24 T
  have d25 := d_six (P := P) (w := w) (base := base) X.a25 T
  have d26 := d_ispart X.a26 T d24 d25
  have d27 := d_need X.a27 d26
  have d28 := d_partnums X.a28 T d27 d12 d15
  have d29 := d_partat X.a29 T d16 d11 d27
  have e0 := d_init (P := P) (w := w) (base := base) X.b0 T L
  have e1 := d_there (P := P) (w := w) (base := base) X.b1 T L
  have e2 := d_put X.b2 T L d27 d28
  have e3 := d_take X.b3 T L e1 d28
  have e4 := d_numbersOf X.b4 T L e1
  have e5 := d_names (P := P) (w := w) (base := base) X.b5 L
  have e6 := d_all (P := P) (w := w) (base := base) X.b6 T L
  have e7 := d_written X.b7 T L d14 d15 e6 d28 d19 d13
  have d35 := d_read X.a35 T L d14 d19 d16 e0 d29 e2
  have d37 := d_cell (P := P) (w := w) (base := base) X.a37 T
  have d38 := d_mixed (P := P) (w := w) (base := base) X.a38
  have d39 := d_lsigns (P := P) (w := w) (base := base) X.a39
  have d40 := d_lname X.a40 T d38
  have d41 := d_lcheck (P := P) (w := w) (base := base) X.a41 T
  have d42 := d_lpartnums X.a42 T d39
  have d43 := d_sealed X.a43 T d39 d41
  have d44 := d_lwritten X.a44 T d42 d43
  have d45 := d_lparts X.a45 T d38 d37 d40
  have d46 := d_same X.a46 L e6 e7 d44 e4 e5
  have d47 := d_putall X.a47 T L e0 e2
  have d48 := d_moved X.a48 T L e3 e2
  have d49 := d_many (P := P) (w := w) (base := base) X.a49 T
  exact ok_law F T L d45 d38 d37 d49 d47 e7 d35 d44 d46 d48
theorem walk {l : PySem.W.OpenLaw} {q : Program} {loose : List Str} {XP : (Str → Option Value) → Heap → Prop} {YP : World → Heap → Prop} {d : DefRec} {K : Params → PySem.W.Frag} (hn : l.most = some 63) (hdf : d.params.defaults = [])
    (hY : ∀ (w : World) (h : Heap), YP w h → (K w.params).In h)
    (F : ∀ (w : World) (mg : Str → Option Value) (fa : Addr) (h : Heap), (K w.params).In h → h.Ns mainGlobals mg → mg d.name = some (.ref fa) →
      ∃ fd : FuncData, (∀ (s : Shared) (u : Value), BindsTo s fd ⟨[u], []⟩ [("_law_script", u)]) ∧ ∀ base : Heap, (K w.params).In base → base.Ns mainGlobals mg → FnOk l.prog w (K w.params) mg base CX0 7 fa fd ["_law_script"] (spLaw (K w.params))) :
    PySem.W.WalkO q loose XP YP l.row.toRowW d [] (fun f vs => PySem.call f vs) :=
  L2.walk_of (n := 63) (k := 7) (x := "_law_script") (CX := fun _ => CX0) (sp := fun w => spLaw (K w.params)) hn (by decide) hdf ⟨rfl, by decide, by decide⟩ hY F (fun _ _ a ns hl _ hS => ⟨a, ns, rfl, hS, hl, fun _ => rfl⟩) fun _ _ _ _ _ z => z
theorem law_mk {P : Program} {w : World} {K : PySem.W.Frag} {mg : Str → Option Value} {fa C f : Addr} {h : Heap} {oc : Value} {od an : Option Addr} {osl : Array (Option Value)} {kV doc pm cdv ct : Value} (X : K.In h) (G : h.Ns mainGlobals mg) (hfa : mg "law" = some (.ref fa)) (FC : Facts K mg C)
    (a : PySem.W.nsIn K mainGlobals "law" = some (some (.ref f))) (l : K.lookup f = some ⟨oc, od, .func (PySem.W.fnOf "law" "law" (defArgs s50) (defBody s50) (defScope s50) .none kV doc pm an cdv ct), osl⟩)
    (c : PySem.W.codeIn K cdv "law" = true) (k : PySem.W.keepIn K (.ref f) = true) :
    ∃ fd : FuncData, (∀ (s : Shared) (v : Value), BindsTo s fd ⟨[v], []⟩ [("_law_script", v)]) ∧ ∀ base : Heap, K.In base → base.Ns mainGlobals mg → FnOk P w K mg base CX0 7 fa fd ["_law_script"] (spLaw K) := by
  have e := hfa.symm.trans (PySem.W.mg_of X G a)
  cases e
  exact ⟨PySem.W.fnOf "law" "law" (defArgs s50) (defBody s50) (defScope s50) .none kV doc pm an cdv ct, fun s v => .of_eq rfl, fun base _ _ => facts_ok FC (fun_mk (st := s50) l c k)⟩
end Cf
open PySem PySem.W PyProof.Rows
set_option maxHeartbeats 0 in
open_top Cf.head for PySem.Challenge.rw_cellfolio_k35_whole_a_folio_reads_back
set_option maxRecDepth 100000 in
set_option maxHeartbeats 0 in
theorem PySem.Challenge.cw_cellfolio_k35_whole_a_folio_reads_back_holds : PySem.Challenge.rw_cellfolio_k35_whole_a_folio_reads_back.Holds := by
  refine Cf.head ?_
  k_fill
  refine Cf.walk (l := PySem.Challenge.rw_cellfolio_k35_whole_a_folio_reads_back) rfl rfl (fun w h Y => PySem.W.kIn_of Y) ?F
  case F =>
    intro w mg fa h KX G hmg
    refine' Cf.law_mk KX G hmg ?FC ?lawA ?lawL ?lawC ?lawK
    case FC =>
      refine' ⟨?T, ?L, ?a11, ?a12, ?a13, ?a14, ?a15, ?a16, ?a19, ?a24, ?a25, ?a26, ?a27, ?a28, ?a29, ?a35, ?a37, ?a38, ?a39, ?a40, ?a41, ?a42, ?a43, ?a44, ?a45, ?a46, ?a47, ?a48, ?a49, ?b0, ?b1, ?b2, ?b3, ?b4, ?b5, ?b6, ?b7⟩
      case L =>
        refine' ⟨⟨?pg, ?hd, ?po, ?sa⟩, ?nK, ?nS, PySem.W.mg_of KX G ?aC, ?mk, ?kc⟩
        case aC => k_is
        case pg => k_is
        case hd => k_is
        case po => k_is
        case sa => k_is
        case nK => (unfold L2.NoAttr; k_is)
        case nS => (unfold L2.NoAttr; k_is)
        case mk => k_is
        case kc => k_is
      case T =>
        refine' ⟨PySem.W.mg_none_of KX G ?z0, PySem.W.mg_none_of KX G ?z1, PySem.W.mg_none_of KX G ?z2, PySem.W.mg_none_of KX G ?z3, PySem.W.mg_none_of KX G ?z4, PySem.W.mg_none_of KX G ?z5, PySem.W.mg_none_of KX G ?z6, PySem.W.mg_none_of KX G ?z7, PySem.W.mg_none_of KX G ?z8, PySem.W.mg_none_of KX G ?z9, PySem.W.mg_none_of KX G ?z10, Cf.conS KX G Cf.sigs_str ?y0, Cf.conI KX G ?y1, Cf.conS KX G Cf.lets_str ?y2, Cf.conI KX G ?y3, Cf.conI KX G ?y4, Cf.conS KX G Cf.head_str ?y5, Cf.conI KX G ?y6, Cf.conI KX G ?y7⟩
        case z0 => k_is
        case z1 => k_is
        case z2 => k_is
        case z3 => k_is
        case z4 => k_is
        case z5 => k_is
        case z6 => k_is
        case z7 => k_is
        case z8 => k_is
        case z9 => k_is
        case z10 => k_is
        case y0 => k_is
        case y1 => k_is
        case y2 => k_is
        case y3 => k_is
        case y4 => k_is
        case y5 => k_is
        case y6 => k_is
        case y7 => k_is
      case a11 => (refine' Cf.at_mk KX G (fun _ _ _ _ _ _ us hl => match us, hl with | [_], _ => rfl) ?a11a ?a11l ?a11c ?a11k; (case a11a => k_is); (case a11l => k_is); (case a11c => k_is); (case a11k => k_is))
      case a12 => (refine' Cf.at_mk KX G (fun _ _ _ _ _ _ us hl => match us, hl with | [_], _ => rfl) ?a12a ?a12l ?a12c ?a12k; (case a12a => k_is); (case a12l => k_is); (case a12c => k_is); (case a12k => k_is))
      case a13 => (refine' Cf.at_mk KX G (fun _ _ _ _ _ _ us hl => match us, hl with | [_], _ => rfl) ?a13a ?a13l ?a13c ?a13k; (case a13a => k_is); (case a13l => k_is); (case a13c => k_is); (case a13k => k_is))
      case a14 => (refine' Cf.at_mk KX G (fun _ _ _ _ _ _ us hl => match us, hl with | [_], _ => rfl) ?a14a ?a14l ?a14c ?a14k; (case a14a => k_is); (case a14l => k_is); (case a14c => k_is); (case a14k => k_is))
      case a15 => (refine' Cf.at_mk KX G (fun _ _ _ _ _ _ us hl => match us, hl with | [_], _ => rfl) ?a15a ?a15l ?a15c ?a15k; (case a15a => k_is); (case a15l => k_is); (case a15c => k_is); (case a15k => k_is))
      case a16 => (refine' Cf.at_mk KX G (fun _ _ _ _ _ _ us hl => match us, hl with | [_, _], _ => rfl) ?a16a ?a16l ?a16c ?a16k; (case a16a => k_is); (case a16l => k_is); (case a16c => k_is); (case a16k => k_is))
      case a19 => (refine' Cf.at_mk KX G (fun _ _ _ _ _ _ us hl => match us, hl with | [_], _ => rfl) ?a19a ?a19l ?a19c ?a19k; (case a19a => k_is); (case a19l => k_is); (case a19c => k_is); (case a19k => k_is))
      case a24 => (refine' Cf.at_mk KX G (fun _ _ _ _ _ _ us hl => match us, hl with | [_, _], _ => rfl) ?a24a ?a24l ?a24c ?a24k; (case a24a => k_is); (case a24l => k_is); (case a24c => k_is); (case a24k => k_is))
      case a25 => (refine' Cf.at_mk KX G (fun _ _ _ _ _ _ us hl => match us, hl with | [_], _ => rfl) ?a25a ?a25l ?a25c ?a25k; (case a25a => k_is); (case a25l => k_is); (case a25c => k_is); (case a25k => k_is))
      case a26 => (refine' Cf.at_mk KX G (fun _ _ _ _ _ _ us hl => match us, hl with | [_], _ => rfl) ?a26a ?a26l ?a26c ?a26k; (case a26a => k_is); (case a26l => k_is); (case a26c => k_is); (case a26k => k_is))
      case a27 => (refine' Cf.at_mk KX G (fun _ _ _ _ _ _ us hl => match us, hl with | [_], _ => rfl) ?a27a ?a27l ?a27c ?a27k; (case a27a => k_is); (case a27l => k_is); (case a27c => k_is); (case a27k => k_is))
      case a28 => (refine' Cf.at_mk KX G (fun _ _ _ _ _ _ us hl => match us, hl with | [_], _ => rfl) ?a28a ?a28l ?a28c ?a28k; (case a28a => k_is); (case a28l => k_is); (case a28c => k_is); (case a28k => k_is))
      case a29 => (refine' Cf.at_mk KX G (fun _ _ _ _ _ _ us hl => match us, hl with | [_, _], _ => rfl) ?a29a ?a29l ?a29c ?a29k; (case a29a => k_is); (case a29l => k_is); (case a29c => k_is); (case a29k => k_is))
      case a35 => (refine' Cf.at_mk KX G (fun _ _ _ _ _ _ us hl => match us, hl with | [_], _ => rfl) ?a35a ?a35l ?a35c ?a35k; (case a35a => k_is); (case a35l => k_is); (case a35c => k_is); (case a35k => k_is))
      case a37 => (refine' Cf.at_mk KX G (fun _ _ _ _ _ _ us hl => match us, hl with | [_, _], _ => rfl) ?a37a ?a37l ?a37c ?a37k; (case a37a => k_is); (case a37l => k_is); (case a37c => k_is); (case a37k => k_is))
      case a38 => (refine' Cf.at_mk KX G (fun _ _ _ _ _ _ us hl => match us, hl with | [_, _], _ => rfl) ?a38a ?a38l ?a38c ?a38k; (case a38a => k_is); (case a38l => k_is); (case a38c => k_is); (case a38k => k_is))
      case a39 => (refine' Cf.at_mk KX G (fun _ _ _ _ _ _ us hl => match us, hl with | [], _ => rfl) ?a39a ?a39l ?a39c ?a39k; (case a39a => k_is); (case a39l => k_is); (case a39c => k_is); (case a39k => k_is))
      case a40 => (refine' Cf.at_mk KX G (fun _ _ _ _ _ _ us hl => match us, hl with | [_], _ => rfl) ?a40a ?a40l ?a40c ?a40k; (case a40a => k_is); (case a40l => k_is); (case a40c => k_is); (case a40k => k_is))
      case a41 => (refine' Cf.at_mk KX G (fun _ _ _ _ _ _ us hl => match us, hl with | [_], _ => rfl) ?a41a ?a41l ?a41c ?a41k; (case a41a => k_is); (case a41l => k_is); (case a41c => k_is); (case a41k => k_is))
      case a42 => (refine' Cf.at_mk KX G (fun _ _ _ _ _ _ us hl => match us, hl with | [_], _ => rfl) ?a42a ?a42l ?a42c ?a42k; (case a42a => k_is); (case a42l => k_is); (case a42c => k_is); (case a42k => k_is))
      case a43 => (refine' Cf.at_mk KX G (fun _ _ _ _ _ _ us hl => match us, hl with | [_], _ => rfl) ?a43a ?a43l ?a43c ?a43k; (case a43a => k_is); (case a43l => k_is); (case a43c => k_is); (case a43k => k_is))
      case a44 => (refine' Cf.at_mk KX G (fun _ _ _ _ _ _ us hl => match us, hl with | [_], _ => rfl) ?a44a ?a44l ?a44c ?a44k; (case a44a => k_is); (case a44l => k_is); (case a44c => k_is); (case a44k => k_is))
      case a45 => (refine' Cf.at_mk KX G (fun _ _ _ _ _ _ us hl => match us, hl with | [_], _ => rfl) ?a45a ?a45l ?a45c ?a45k; (case a45a => k_is); (case a45l => k_is); (case a45c => k_is); (case a45k => k_is))
      case a46 => (refine' Cf.at_mk KX G (fun _ _ _ _ _ _ us hl => match us, hl with | [_, _], _ => rfl) ?a46a ?a46l ?a46c ?a46k; (case a46a => k_is); (case a46l => k_is); (case a46c => k_is); (case a46k => k_is))
      case a47 => (refine' Cf.at_mk KX G (fun _ _ _ _ _ _ us hl => match us, hl with | [_], _ => rfl) ?a47a ?a47l ?a47c ?a47k; (case a47a => k_is); (case a47l => k_is); (case a47c => k_is); (case a47k => k_is))
      case a48 => (refine' Cf.at_mk KX G (fun _ _ _ _ _ _ us hl => match us, hl with | [_, _, _], _ => rfl) ?a48a ?a48l ?a48c ?a48k; (case a48a => k_is); (case a48l => k_is); (case a48c => k_is); (case a48k => k_is))
      case a49 => (refine' Cf.at_mk KX G (fun _ _ _ _ _ _ us hl => match us, hl with | [_], _ => rfl) ?a49a ?a49l ?a49c ?a49k; (case a49a => k_is); (case a49l => k_is); (case a49c => k_is); (case a49k => k_is))
      case b0 => (refine' Cf.mat_mk (fun _ _ _ _ _ _ us hl => match us, hl with | [_], _ => rfl) ?b0a ?b0i ?b0l ?b0c ?b0k; (case b0a => k_is); (case b0i => k_is); (case b0l => k_is); (case b0c => k_is); (case b0k => k_is))
      case b1 => (refine' Cf.mat_mk (fun _ _ _ _ _ _ us hl => match us, hl with | [_, _, _], _ => rfl) ?b1a ?b1i ?b1l ?b1c ?b1k; (case b1a => k_is); (case b1i => k_is); (case b1l => k_is); (case b1c => k_is); (case b1k => k_is))
      case b2 => (refine' Cf.mat_mk (fun _ _ _ _ _ _ us hl => match us, hl with | [_, _], _ => rfl) ?b2a ?b2i ?b2l ?b2c ?b2k; (case b2a => k_is); (case b2i => k_is); (case b2l => k_is); (case b2c => k_is); (case b2k => k_is))
      case b3 => (refine' Cf.mat_mk (fun _ _ _ _ _ _ us hl => match us, hl with | [_, _, _], _ => rfl) ?b3a ?b3i ?b3l ?b3c ?b3k; (case b3a => k_is); (case b3i => k_is); (case b3l => k_is); (case b3c => k_is); (case b3k => k_is))
      case b4 => (refine' Cf.mat_mk (fun _ _ _ _ _ _ us hl => match us, hl with | [_, _, _], _ => rfl) ?b4a ?b4i ?b4l ?b4c ?b4k; (case b4a => k_is); (case b4i => k_is); (case b4l => k_is); (case b4c => k_is); (case b4k => k_is))
      case b5 => (refine' Cf.mat_mk (fun _ _ _ _ _ _ us hl => match us, hl with | [_, _], _ => rfl) ?b5a ?b5i ?b5l ?b5c ?b5k; (case b5a => k_is); (case b5i => k_is); (case b5l => k_is); (case b5c => k_is); (case b5k => k_is))
      case b6 => (refine' Cf.mat_mk (fun _ _ _ _ _ _ us hl => match us, hl with | [_], _ => rfl) ?b6a ?b6i ?b6l ?b6c ?b6k; (case b6a => k_is); (case b6i => k_is); (case b6l => k_is); (case b6c => k_is); (case b6k => k_is))
      case b7 => (refine' Cf.mat_mk (fun _ _ _ _ _ _ us hl => match us, hl with | [_], _ => rfl) ?b7a ?b7i ?b7l ?b7c ?b7k; (case b7a => k_is); (case b7i => k_is); (case b7l => k_is); (case b7c => k_is); (case b7k => k_is))
    case lawA => k_is
    case lawL => k_is
    case lawC => k_is
    case lawK => k_is
