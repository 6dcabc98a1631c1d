import PyProof.Rows.All
import Wide.All
import OpenK.AllK
import Wide.FinOn
import KE.KStateDown
import HandS.ForMost
import HandS.ForExc
import HandS.Defaults
import HandS.Flow
import HandS.Style
import HandS.MakeKw
import HandS.MakeKwOnly
import HandS.OwnEq
import HandS.ExcInit
import HandS.ExcIs
import HandS.ExcField
import HandS.ExcValue
import HandS.CallSlots
import HandS.Lambda
import HandS.EndTab
import HandS.TupAny
import HandS.TupMul
import HandS.Conv
import HandS.Zip
import HandS.DictComp
import HandS.IsInst
import HandS.More
import HandS.Walk
import HandS.Strs
import HandS.Head0
import HandS.Head1
import HandS.Head2
import HandS.HeadEnd
import HandS.HeadHook1
import HandS.HeadHook2
import HandS.HeadHook3
import HandS.HeadHook4
import HandS.HeadWalk
import HandS.ClsMeth
import HandS.ExcSuper
import PySem.Challenge.RW_swaprow_k60_whole_live_rows
import HandS.SetFor
import KE.GoesMore
import PyProof.Rows.SortShellAny
import HandS.Small
set_option Elab.async false
set_option linter.all false
set_option maxRecDepth 100000
/-! Swaprow: the plain mathematics (no program in sight). -/
namespace Sw

/-! ### arrangements and rankings of n items -/
/-- every number from 0 to n - 1 once -/
def PermN (ns : List Int) (n : Nat) : Prop := ns.length = n ∧ ns.Nodup ∧ ∀ z : Int, z ∈ ns ↔ 0 ≤ z ∧ z < n

theorem len_le : ∀ (n : Nat) (l : List Int), l.Nodup → (∀ z ∈ l, 0 ≤ z ∧ z < (n : Int)) → l.length ≤ n
  | 0, l, _, h => by
    cases l with
    | nil => exact Nat.le_refl _
    | cons a r =>
      have := h a List.mem_cons_self
      omega
  | n + 1, l, hd, h => by
    have h1 : (l.erase (n : Int)).Nodup := hd.erase _
    have h2 : ∀ z ∈ l.erase (n : Int), 0 ≤ z ∧ z < (n : Int) := fun z hz => by
      have hm := (hd.mem_erase_iff).mp hz
      have := h z hm.2
      have := hm.1
      omega
    have h3 := len_le n _ h1 h2
    have h4 : l.length ≤ (l.erase (n : Int)).length + 1 := by
      rw [List.length_erase]
      split <;> omega
    omega

theorem permN_of {ns : List Int} {n : Nat} (hl : ns.length = n) (hd : ns.Nodup) (hr : ∀ z ∈ ns, 0 ≤ z ∧ z < (n : Int)) : PermN ns n := by
  refine ⟨hl, hd, fun z => ⟨hr z, fun hz => ?_⟩⟩
  by_cases hm : z ∈ ns
  · exact hm
  · have h1 : (z :: ns).Nodup := List.nodup_cons.mpr ⟨hm, hd⟩
    have h2 : ∀ y ∈ z :: ns, 0 ≤ y ∧ y < (n : Int) := fun y hy => by
      rcases List.mem_cons.mp hy with e | e
      · rw [e]; exact hz
      · exact hr y e
    have := len_le n _ h1 h2
    rw [List.length_cons] at this
    omega

theorem PermN.perm {ns ms : List Int} {n : Nat} (h : PermN ns n) (p : ms.Perm ns) : PermN ms n :=
  ⟨p.length_eq.trans h.1, (p.nodup_iff).mpr h.2.1, fun z => (p.mem_iff).trans (h.2.2 z)⟩

/-- 0, 1, .., n - 1 -/
def rng (n : Nat) : List Int := (List.range n).map fun i : Nat => (i : Int)
theorem rng_len (n : Nat) : (rng n).length = n := by unfold rng; rw [List.length_map, List.length_range]
theorem rng_get {n i : Nat} (h : i < n) : (rng n)[i]? = some (i : Int) := by
  unfold rng
  rw [List.getElem?_map, List.getElem?_range h]
  rfl
theorem mem_rng {n : Nat} {z : Int} : z ∈ rng n ↔ 0 ≤ z ∧ z < n := by
  unfold rng
  rw [List.mem_map]
  constructor
  · rintro ⟨a, ha, rfl⟩
    have := List.mem_range.mp ha
    omega
  · intro h
    exact ⟨z.toNat, List.mem_range.mpr (by omega), by omega⟩
theorem rng_nodup (n : Nat) : (rng n).Nodup := by
  unfold rng
  rw [List.nodup_iff_pairwise_ne, List.pairwise_map]
  exact (List.nodup_range (n := n)).imp fun h e => h (by omega)
theorem permN_rng (n : Nat) : PermN (rng n) n := ⟨rng_len n, rng_nodup n, fun _ => mem_rng⟩
theorem rng_sorted (n : Nat) : (rng n).Pairwise (· < ·) := by
  unfold rng
  rw [List.pairwise_map]
  exact (List.pairwise_lt_range (n := n)).imp fun h => by omega

theorem PermN.perm_rng {ns : List Int} {n : Nat} (h : PermN ns n) : ns.Perm (rng n) :=
  (List.perm_ext_iff_of_nodup h.2.1 (rng_nodup n)).mpr fun z => (h.2.2 z).trans mem_rng.symm

/-- sorted lists that are permutations are the same -/
theorem sorted_same : ∀ {l m : List Int}, l.Perm m → l.Pairwise (· ≤ ·) → m.Pairwise (· ≤ ·) → l = m
  | [], m, p, _, _ => (List.nil_perm.mp p).symm
  | a :: l, [], p, _, _ => absurd (List.perm_nil.mp p) (by simp)
  | a :: l, b :: m, p, h1, h2 => by
    obtain ⟨a1, a2⟩ := List.pairwise_cons.mp h1
    obtain ⟨b1, b2⟩ := List.pairwise_cons.mp h2
    have ea : a ∈ b :: m := p.mem_iff.mp List.mem_cons_self
    have eb : b ∈ a :: l := p.mem_iff.mpr List.mem_cons_self
    have e : a = b := by
      rcases List.mem_cons.mp ea with e | e
      · exact e
      · rcases List.mem_cons.mp eb with e' | e'
        · exact e'.symm
        · have := b1 a e
          have := a1 b e'
          omega
    subst e
    rw [sorted_same (List.perm_cons a |>.mp p) a2 b2]

/-! ### is it a ranking of n items? -/
def below (n : Nat) (z : Int) : Bool := decide (0 ≤ z) && decide (z < (n : Int))
theorem below_iff {n : Nat} {z : Int} : below n z = true ↔ 0 ≤ z ∧ z < n := by
  unfold below
  rw [Bool.and_eq_true, decide_eq_true_eq, decide_eq_true_eq]
def isRk (ns : List Int) (n : Nat) : Bool := decide (ns.length = n) && (ns.all (below n) && decide ns.Nodup)
theorem isRk_iff {ns : List Int} {n : Nat} : isRk ns n = true ↔ PermN ns n := by
  unfold isRk
  rw [Bool.and_eq_true, Bool.and_eq_true, decide_eq_true_eq, decide_eq_true_eq, List.all_eq_true]
  constructor
  · rintro ⟨h1, h2, h3⟩
    exact permN_of h1 h3 fun z hz => below_iff.mp (h2 z hz)
  · rintro ⟨h1, h2, h3⟩
    exact ⟨h1, fun z hz => below_iff.mpr ((h3 z).mp hz), h2⟩
/-- sorted(ns) == list(range(n)) -/
theorem sorted_is {ns ms : List Int} {n : Nat} (p : ms.Perm ns) (s : ms.Pairwise (· ≤ ·)) (hl : ns.length = n) : decide (ms = rng n) = isRk ns n := by
  rw [Bool.eq_iff_iff, decide_eq_true_eq, isRk_iff]
  constructor
  · intro e
    exact (permN_rng n).perm (e ▸ p.symm)
  · intro h
    exact sorted_same (p.trans h.perm_rng) s ((rng_sorted n).imp fun h => by omega)

/-! ### the index of an item -/
def ixo : List Int → Int → Nat
  | [], _ => 0
  | a :: r, z => if a = z then 0 else ixo r z + 1
theorem ixo_get : ∀ {l : List Int} {z : Int}, z ∈ l → l[ixo l z]? = some z
  | [], z, h => by cases h
  | a :: r, z, h => by
    unfold ixo
    by_cases e : a = z
    · rw [if_pos e, e]; rfl
    · rw [if_neg e]
      have : z ∈ r := (List.mem_cons.mp h).resolve_left fun q => e q.symm
      exact ixo_get this
theorem ixo_first : ∀ {l : List Int} {z : Int} {m : Nat}, m < ixo l z → l[m]? ≠ some z
  | [], z, m, h => by
    intro q
    cases m <;> cases q
  | a :: r, z, m, h => by
    unfold ixo at h
    by_cases e : a = z
    · rw [if_pos e] at h; omega
    · rw [if_neg e] at h
      cases m with
      | zero =>
        intro q
        exact e (Option.some.inj q)
      | succ m => exact ixo_first (l := r) (by omega)
theorem ixo_lt {l : List Int} {z : Int} (h : z ∈ l) : ixo l z < l.length := (List.getElem?_eq_some_iff.mp (ixo_get h)).1
theorem ixo_at {l : List Int} {z : Int} {i : Nat} (hd : l.Nodup) (h : l[i]? = some z) : ixo l z = i := by
  have hm : z ∈ l := List.mem_of_getElem? h
  obtain ⟨h1, e1⟩ := List.getElem?_eq_some_iff.mp (ixo_get hm)
  obtain ⟨h2, e2⟩ := List.getElem?_eq_some_iff.mp h
  exact (List.getElem_inj hd).mp (e1.trans e2.symm)

/-! ### may two neighbors swap? -/
/-- person w prefers y to z -/
def pref (R : List (List Int)) (w : Nat) (y z : Int) : Bool := decide (ixo (R.getD w []) y < ixo (R.getD w []) z)
def may (R : List (List Int)) (A : List Int) (p : Nat) : Bool := pref R p (A.getD (p + 1) 0) (A.getD p 0) && pref R (p + 1) (A.getD p 0) (A.getD (p + 1) 0)
/-- the arrangement after the swap p -/
def swp (A : List Int) (p : Nat) : List Int := A.take p ++ (A.getD (p + 1) 0 :: A.getD p 0 :: A.drop (p + 2))
theorem split2 {A : List Int} {p : Nat} (h : p + 1 < A.length) : A = A.take p ++ (A.getD p 0 :: A.getD (p + 1) 0 :: A.drop (p + 2)) := by
  have e1 : A.drop p = A.getD p 0 :: A.drop (p + 1) := by
    rw [List.drop_eq_getElem_cons (by omega : p < A.length), List.getD_eq_getElem?_getD, List.getElem?_eq_getElem (by omega : p < A.length)]
    rfl
  have e2 : A.drop (p + 1) = A.getD (p + 1) 0 :: A.drop (p + 2) := by
    rw [List.drop_eq_getElem_cons h, List.getD_eq_getElem?_getD, List.getElem?_eq_getElem h]
    rfl
  rw [← e2, ← e1, List.take_append_drop]
theorem swp_perm {A : List Int} {p : Nat} (h : p + 1 < A.length) : (swp A p).Perm A := by
  refine List.Perm.trans ?_ (List.Perm.of_eq (split2 h).symm)
  unfold swp
  exact List.Perm.append_left _ (List.Perm.swap _ _ _)

/-! ### a live row's data -/
inductive Deed where
  | swap (p : Nat)
  | rerank (w : Nat) (ns : List Int)
  deriving DecidableEq
abbrev RA := List (List Int) × List Int
/-- rankings and an arrangement of n people -/
structure Val (n : Nat) (x : RA) : Prop where
  lR : x.1.length = n
  pR : ∀ ns ∈ x.1, PermN ns n
  pA : PermN x.2 n
structure Box where
  ra : RA
  deeds : List Deed
  past : List RA
def Box.R (x : Box) : List (List Int) := x.ra.1
def Box.A (x : Box) : List Int := x.ra.2
/-- a box of n people that began with x0, behind at most m changes -/
structure Good (n m : Nat) (x0 : RA) (x : Box) : Prop where
  n1 : 1 ≤ n
  n8 : n ≤ 40
  len : x.deeds.length = x.past.length
  few : x.deeds.length ≤ m
  val : Val n x.ra
  vals : ∀ y ∈ x.past, Val n y
  root : (x.past ++ [x.ra])[0]? = some x0
def Box.new (x0 : RA) : Box := ⟨x0, [], []⟩
theorem good_new {n : Nat} {x0 : RA} (h1 : 1 ≤ n) (h8 : n ≤ 40) (v : Val n x0) : Good n 0 x0 (Box.new x0) :=
  ⟨h1, h8, rfl, Nat.le_refl _, v, fun _ h => (by cases h), rfl⟩
def Box.then (x : Box) (d : Deed) (ra : RA) : Box := ⟨ra, x.deeds ++ [d], x.past ++ [x.ra]⟩
theorem Good.then {n m : Nat} {x0 ra : RA} {x : Box} {d : Deed} (g : Good n m x0 x) (v : Val n ra) : Good n (m + 1) x0 (x.then d ra) := by
  refine ⟨g.n1, g.n8, ?_, ?_, v, ?_, ?_⟩
  · show (x.deeds ++ [d]).length = (x.past ++ [x.ra]).length
    rw [List.length_append, List.length_append, g.len]
    rfl
  · show (x.deeds ++ [d]).length ≤ m + 1
    rw [List.length_append]
    have := g.few
    simp only [List.length_cons, List.length_nil]
    omega
  · intro y hy
    rcases List.mem_append.mp hy with h | h
    · exact g.vals y h
    · rw [List.mem_singleton.mp h]
      exact g.val
  · show ((x.past ++ [x.ra]) ++ [ra])[0]? = some x0
    rw [List.getElem?_append_left (by simp)]
    exact g.root
theorem Good.mono {n m k : Nat} {x0 : RA} {x : Box} (g : Good n m x0 x) (h : m ≤ k) : Good n k x0 x := ⟨g.n1, g.n8, g.len, Nat.le_trans g.few h, g.val, g.vals, g.root⟩
/-- the latest change taken back -/
def Box.back (x : Box) : Box := ⟨x.past.getLastD x.ra, x.deeds.dropLast, x.past.dropLast⟩
theorem getLastD_mem {l : List RA} {d : RA} (h : l ≠ []) : l.getLastD d ∈ l := by
  rw [List.getLastD_eq_getLast?, List.getLast?_eq_some_getLast h]
  exact List.getLast_mem h
theorem Good.back {n m : Nat} {x0 : RA} {x : Box} (g : Good n m x0 x) (h : x.deeds ≠ []) : Good n m x0 x.back := by
  have hp : x.past ≠ [] := fun e => h (List.eq_nil_of_length_eq_zero (by rw [g.len, e]; rfl))
  have e : x.past = x.past.dropLast ++ [x.past.getLastD x.ra] := by
    rw [List.getLastD_eq_getLast?, List.getLast?_eq_some_getLast hp]
    exact (List.dropLast_concat_getLast hp).symm
  refine ⟨g.n1, g.n8, ?_, ?_, g.vals _ (getLastD_mem hp), fun y hy => g.vals y (List.dropLast_subset _ hy), ?_⟩
  · show x.deeds.dropLast.length = x.past.dropLast.length
    rw [List.length_dropLast, List.length_dropLast, g.len]
  · show x.deeds.dropLast.length ≤ m
    rw [List.length_dropLast]
    have := g.few
    omega
  · show (x.past.dropLast ++ [x.past.getLastD x.ra])[0]? = some x0
    rw [← e]
    have r := g.root
    rw [List.getElem?_append_left (List.length_pos_iff.mpr hp)] at r
    exact r
theorem Good.begin {n m : Nat} {x0 : RA} {x : Box} (g : Good n m x0 x) (h : x.deeds = []) : x.ra = x0 := by
  have hp : x.past = [] := List.eq_nil_of_length_eq_zero (by rw [← g.len, h]; rfl)
  have r := g.root
  rw [hp] at r
  exact Option.some.inj r
theorem Good.lA {n m : Nat} {x0 : RA} {x : Box} (g : Good n m x0 x) : x.A.length = n := g.val.pA.1
theorem Good.lR {n m : Nat} {x0 : RA} {x : Box} (g : Good n m x0 x) : x.R.length = n := g.val.lR

theorem val_swp {n p : Nat} {R : List (List Int)} {A : List Int} (v : Val n (R, A)) (hp : p + 1 < n) : Val n (R, swp A p) :=
  ⟨v.lR, v.pR, v.pA.perm (swp_perm (by rw [v.pA.1]; exact hp))⟩
theorem val_set {n w : Nat} {R : List (List Int)} {A ns : List Int} (v : Val n (R, A)) (h : PermN ns n) : Val n (R.set w ns, A) :=
  ⟨(List.length_set ..).trans v.lR, fun ms hm => (List.mem_or_eq_of_mem_set hm).elim (v.pR ms) fun e => e ▸ h, v.pA⟩
/-- all allowed swaps -/
def allowed (n : Nat) (R : List (List Int)) (A : List Int) : List Nat := (List.range (n - 1)).filter (may R A)
theorem mem_allowed {n p : Nat} {R : List (List Int)} {A : List Int} : p ∈ allowed n R A ↔ p < n - 1 ∧ may R A p = true := by
  unfold allowed
  rw [List.mem_filter, List.mem_range]

/-! ### the drawn walk: no item comes back to a person -/
structure WInv (n : Nat) (row : List Int) (held : List (List Int)) (mv : Int → Option Int) : Prop where
  perm : PermN row n
  hl : held.length = n
  hd : ∀ (p : Nat) l, held[p]? = some l → l.Nodup
  hr : ∀ (p : Nat) l, held[p]? = some l → ∀ z ∈ l, 0 ≤ z ∧ z < (n : Int)
  last : ∀ (p : Nat) l, held[p]? = some l → l.getLast? = row[p]?
  pos : ∀ (p : Nat) l y (q : Nat), held[p]? = some l → y ∈ l → row[q]? = some y → (mv y = none → p = q) ∧ (mv y = some 1 → p ≤ q) ∧ (mv y = some (-1) → q ≤ p)
theorem winv0 (n : Nat) : WInv n (rng n) ((List.range n).map fun i : Nat => [(i : Int)]) (fun _ => none) := by
  have at_ : ∀ (p : Nat) l, ((List.range n).map fun i : Nat => [(i : Int)])[p]? = some l → p < n ∧ l = [(p : Int)] := fun p l h => by
    rw [List.getElem?_map] at h
    by_cases hp : p < n
    · rw [List.getElem?_range hp] at h
      exact ⟨hp, (Option.some.inj h).symm⟩
    · rw [List.getElem?_eq_none (by simpa using Nat.le_of_not_lt hp)] at h
      cases h
  refine ⟨permN_rng n, by rw [List.length_map, List.length_range], fun p l h => ?_, fun p l h z hz => ?_, fun p l h => ?_, fun p l y q h hy hq => ?_⟩
  · rw [(at_ p l h).2]; simp
  · obtain ⟨hp, e⟩ := at_ p l h
    rw [e, List.mem_singleton] at hz
    omega
  · obtain ⟨hp, e⟩ := at_ p l h
    rw [e, rng_get hp]; rfl
  · obtain ⟨hp, e⟩ := at_ p l h
    rw [e, List.mem_singleton] at hy
    have hqn : q < n := by
      have := (List.getElem?_eq_some_iff.mp hq).1
      rw [rng_len] at this
      exact this
    rw [rng_get hqn] at hq
    have e2 : (q : Int) = y := Option.some.inj hq
    have e3 : p = q := by omega
    exact ⟨fun _ => e3, fun _ => Nat.le_of_eq e3, fun _ => Nat.le_of_eq e3.symm⟩
def mvTo (mv : Int → Option Int) (thing far : Int) : Int → Option Int := fun y => if y = far then some (-1) else if y = thing then some 1 else mv y
theorem nodup_ix {l : List Int} (h : l.Nodup) {i j : Nat} {x : Int} (a : l[i]? = some x) (b : l[j]? = some x) : i = j := by
  obtain ⟨h1, e1⟩ := List.getElem?_eq_some_iff.mp a
  obtain ⟨h2, e2⟩ := List.getElem?_eq_some_iff.mp b
  exact (List.getElem_inj h).mp (e1.trans e2.symm)
theorem nodup_snoc {l : List Int} {z : Int} (h : l.Nodup) (hz : ¬ z ∈ l) : (l ++ [z]).Nodup := by
  rw [List.nodup_append]
  refine ⟨h, by simp, fun a ha b hb e => hz ?_⟩
  rw [← List.mem_singleton.mp hb, ← e]
  exact ha
/-- set two neighbors -/
def set2 {α : Type} (l : List α) (p : Nat) (a b : α) : List α := (l.set p a).set (p + 1) b
theorem set2_get {α : Type} {l : List α} {p : Nat} {a b : α} (h : p + 1 < l.length) (j : Nat) : (set2 l p a b)[j]? = if j = p then some a else if j = p + 1 then some b else l[j]? := by
  unfold set2
  rw [List.getElem?_set, List.getElem?_set, List.length_set]
  by_cases h1 : j = p
  · subst h1
    rw [if_neg (by omega), if_pos rfl, if_pos (by omega), if_pos rfl]
  · rw [if_neg h1]
    by_cases h2 : j = p + 1
    · subst h2
      rw [if_pos rfl, if_pos h, if_pos rfl]
    · rw [if_neg (fun e => h2 e.symm), if_neg (fun e => h1 e.symm), if_neg h2]
theorem set2_swp {A : List Int} {p : Nat} (h : p + 1 < A.length) : set2 A p (A.getD (p + 1) 0) (A.getD p 0) = swp A p := by
  apply List.ext_getElem?
  intro j
  rw [set2_get h]
  unfold swp
  have hl : (A.take p).length = p := by rw [List.length_take]; omega
  by_cases h1 : j = p
  · subst h1
    rw [if_pos rfl, List.getElem?_append_right (by omega), hl, Nat.sub_self]
    rfl
  · rw [if_neg h1]
    by_cases h2 : j = p + 1
    · subst h2
      rw [if_pos rfl, List.getElem?_append_right (by omega), hl, show p + 1 - p = 1 by omega]
      rfl
    · rw [if_neg h2]
      by_cases h3 : j < p
      · rw [List.getElem?_append_left (by omega), List.getElem?_take_of_lt h3]
      · rw [List.getElem?_append_right (by omega), hl, show j - p = (j - (p + 2)) + 2 by omega, List.getElem?_cons_succ, List.getElem?_cons_succ, List.getElem?_drop, show p + 2 + (j - (p + 2)) = j by omega]
theorem WInv.step {n p : Nat} {row : List Int} {held : List (List Int)} {mv : Int → Option Int} {l1 l2 : List Int} {thing far : Int} (W : WInv n row held mv) (hp : p + 1 < n)
    (e1 : row[p]? = some thing) (e2 : row[p + 1]? = some far) (g1 : (mv thing).getD 1 = 1) (g2 : (mv far).getD (-1) = -1) (h1 : held[p]? = some l1) (h2 : held[p + 1]? = some l2) :
    WInv n (set2 row p far thing) (set2 held p (l1 ++ [far]) (l2 ++ [thing])) (mvTo mv thing far) := by
  have lr : p + 1 < row.length := by rw [W.perm.1]; exact hp
  have lh : p + 1 < held.length := by rw [W.hl]; exact hp
  have ne : thing ≠ far := fun e => by
    have := nodup_ix W.perm.2.1 e1 (e ▸ e2)
    omega
  have m1 : mv thing = none ∨ mv thing = some 1 := by
    cases h : mv thing with
    | none => exact .inl rfl
    | some v => rw [h] at g1; exact .inr (congrArg some g1)
  have m2 : mv far = none ∨ mv far = some (-1) := by
    cases h : mv far with
    | none => exact .inl rfl
    | some v => rw [h] at g2; exact .inr (congrArg some g2)
  have no1 : ¬ far ∈ l1 := fun h => by
    obtain ⟨a, _, c⟩ := W.pos p l1 far (p + 1) h1 h e2
    rcases m2 with m | m
    · have := a m; omega
    · have := c m; omega
  have no2 : ¬ thing ∈ l2 := fun h => by
    obtain ⟨a, b, _⟩ := W.pos (p + 1) l2 thing p h2 h e1
    rcases m1 with m | m
    · have := a m; omega
    · have := b m; omega
  have rperm : (set2 row p far thing).Perm row := by
    have ef : far = row.getD (p + 1) 0 := by rw [List.getD_eq_getElem?_getD, e2]; rfl
    have et : thing = row.getD p 0 := by rw [List.getD_eq_getElem?_getD, e1]; rfl
    rw [ef, et, set2_swp lr]
    exact swp_perm lr
  have rin : ∀ z, z ∈ row → 0 ≤ z ∧ z < (n : Int) := fun z hz => (W.perm.2.2 z).mp hz
  have tin := rin thing (List.mem_of_getElem? e1)
  have fin_ := rin far (List.mem_of_getElem? e2)
  have at_ : ∀ (q : Nat) l, (set2 held p (l1 ++ [far]) (l2 ++ [thing]))[q]? = some l → (q = p ∧ l = l1 ++ [far]) ∨ (q = p + 1 ∧ l = l2 ++ [thing]) ∨ (q ≠ p ∧ q ≠ p + 1 ∧ held[q]? = some l) := fun q l h => by
    rw [set2_get lh] at h
    by_cases q1 : q = p
    · rw [if_pos q1] at h
      exact .inl ⟨q1, (Option.some.inj h).symm⟩
    · rw [if_neg q1] at h
      by_cases q2 : q = p + 1
      · rw [if_pos q2] at h
        exact .inr (.inl ⟨q2, (Option.some.inj h).symm⟩)
      · rw [if_neg q2] at h
        exact .inr (.inr ⟨q1, q2, h⟩)
  refine ⟨W.perm.perm rperm, by unfold set2; rw [List.length_set, List.length_set]; exact W.hl, fun q l h => ?_, fun q l h z hz => ?_, fun q l h => ?_, fun q l y r h hy hr => ?_⟩
  · rcases at_ q l h with ⟨_, e⟩ | ⟨_, e⟩ | ⟨_, _, e⟩
    · rw [e]; exact nodup_snoc (W.hd _ _ h1) no1
    · rw [e]; exact nodup_snoc (W.hd _ _ h2) no2
    · exact W.hd _ _ e
  · rcases at_ q l h with ⟨_, e⟩ | ⟨_, e⟩ | ⟨_, _, e⟩
    · rw [e] at hz
      rcases List.mem_append.mp hz with z1 | z1
      · exact W.hr _ _ h1 z z1
      · rw [List.mem_singleton.mp z1]; exact fin_
    · rw [e] at hz
      rcases List.mem_append.mp hz with z1 | z1
      · exact W.hr _ _ h2 z z1
      · rw [List.mem_singleton.mp z1]; exact tin
    · exact W.hr _ _ e z hz
  · rw [set2_get lr]
    rcases at_ q l h with ⟨q1, e⟩ | ⟨q1, e⟩ | ⟨q1, q2, e⟩
    · rw [e, if_pos q1]; simp
    · rw [e, if_neg (by omega), if_pos q1]; simp
    · rw [if_neg q1, if_neg q2]; exact W.last _ _ e
  · rw [set2_get lr] at hr
    have key : ∀ (old : List Int), held[q]? = some old → y ∈ old → (mvTo mv thing far y = none → q = r) ∧ (mvTo mv thing far y = some 1 → q ≤ r) ∧ (mvTo mv thing far y = some (-1) → r ≤ q) := fun old ho hyo => by
      unfold mvTo
      by_cases yf : y = far
      · rw [if_pos yf]
        have er : r = p := by
          by_cases r1 : r = p
          · exact r1
          · rw [if_neg r1] at hr
            by_cases r2 : r = p + 1
            · rw [if_pos r2] at hr
              exact absurd ((Option.some.inj hr).trans yf) ne
            · rw [if_neg r2] at hr
              exact absurd (nodup_ix W.perm.2.1 hr (yf ▸ e2)) r2
        obtain ⟨a, _, c⟩ := W.pos q old far (p + 1) ho (yf ▸ hyo) e2
        have : p + 1 ≤ q := by
          rcases m2 with m | m
          · have := a m; omega
          · exact c m
        refine ⟨fun h => (by cases h), fun h => ?_, fun _ => by omega⟩
        have h' : (-1 : Int) = 1 := Option.some.inj h
        omega
      · rw [if_neg yf]
        by_cases yt : y = thing
        · rw [if_pos yt]
          have er : r = p + 1 := by
            by_cases r1 : r = p
            · rw [if_pos r1] at hr
              exact absurd (Option.some.inj hr).symm yf
            · rw [if_neg r1] at hr
              by_cases r2 : r = p + 1
              · exact r2
              · rw [if_neg r2] at hr
                exact absurd (nodup_ix W.perm.2.1 hr (yt ▸ e1)) r1
          obtain ⟨a, b, _⟩ := W.pos q old thing p ho (yt ▸ hyo) e1
          have : q ≤ p := by
            rcases m1 with m | m
            · have := a m; omega
            · exact b m
          refine ⟨fun h => (by cases h), fun _ => by omega, fun h => ?_⟩
          have h' : (1 : Int) = -1 := Option.some.inj h
          omega
        · rw [if_neg yt]
          have hr' : row[r]? = some y := by
            by_cases r1 : r = p
            · rw [if_pos r1] at hr
              exact absurd (Option.some.inj hr).symm yf
            · rw [if_neg r1] at hr
              by_cases r2 : r = p + 1
              · rw [if_pos r2] at hr
                exact absurd (Option.some.inj hr).symm yt
              · rw [if_neg r2] at hr
                exact hr
          exact W.pos q old y r ho hyo hr'
    rcases at_ q l h with ⟨q1, e⟩ | ⟨q1, e⟩ | ⟨q1, q2, e⟩
    · rw [e] at hy
      rcases List.mem_append.mp hy with z1 | z1
      · exact key l1 (q1 ▸ h1) z1
      · have yf : y = far := List.mem_singleton.mp z1
        have er : r = p := by
          by_cases r1 : r = p
          · exact r1
          · rw [if_neg r1] at hr
            by_cases r2 : r = p + 1
            · rw [if_pos r2] at hr
              exact absurd ((Option.some.inj hr).trans yf) ne
            · rw [if_neg r2] at hr
              exact absurd (nodup_ix W.perm.2.1 hr (yf ▸ e2)) r2
        exact ⟨fun _ => by omega, fun _ => by omega, fun _ => by omega⟩
    · rw [e] at hy
      rcases List.mem_append.mp hy with z1 | z1
      · exact key l2 (q1 ▸ h2) z1
      · have yt : y = thing := List.mem_singleton.mp z1
        have er : r = p + 1 := by
          by_cases r1 : r = p
          · rw [if_pos r1] at hr
            exact absurd ((Option.some.inj hr).trans yt).symm ne
          · rw [if_neg r1] at hr
            by_cases r2 : r = p + 1
            · exact r2
            · rw [if_neg r2] at hr
              exact absurd (nodup_ix W.perm.2.1 hr (yt ▸ e1)) r1
        exact ⟨fun _ => by omega, fun _ => by omega, fun _ => by omega⟩
    · exact key l e hy
end Sw
set_option maxHeartbeats 4000000
/-! Swaprow: the text by places -/
namespace Sw
open PySem L2
def top (i : Nat) : Stmt := PySem.Challenge.pw_swaprow_k60_whole_live_rows.main.body.getD i (.Pass ⟨0, 0, 0, 0⟩)
abbrev s_is_integer : Stmt := top 11
abbrev s_is_number_below : Stmt := top 12
abbrev s_is_ranking : Stmt := top 13
abbrev s_check_rankings : Stmt := top 14
abbrev s_check_person : Stmt := top 15
abbrev s_rank_tables : Stmt := top 16
abbrev s_check_arrangement : Stmt := top 18
abbrev s_check_fitting : Stmt := top 19
abbrev s_is_allowed_there : Stmt := top 21
abbrev s_allowed_swaps : Stmt := top 22
abbrev s_swapped : Stmt := top 23
abbrev s_L_mixed : Stmt := top 27
abbrev s_L_folded : Stmt := top 28
abbrev s_L_draw : Stmt := top 29
abbrev s_L_begun : Stmt := top 30
abbrev s_L_mixed_up : Stmt := top 31
abbrev s_L_walked : Stmt := top 32
abbrev s_L_lists : Stmt := top 33
abbrev s_L_likes : Stmt := top 34
abbrev s_L_may : Stmt := top 35
abbrev s_L_after : Stmt := top 36
abbrev s_L_any_row : Stmt := top 37
abbrev s_L_recorded : Stmt := top 38
abbrev s_L_is_ranked : Stmt := top 39
abbrev s_L_is_below : Stmt := top 40
abbrev s_L_error : Stmt := top 41
abbrev s_L_changed : Stmt := top 42
abbrev s_L_class : Stmt := top 43
abbrev s_L_told : Stmt := top 44
abbrev s_L_change : Stmt := top 45
abbrev s_L_do : Stmt := top 46
abbrev s_L_is_so : Stmt := top 47
abbrev s_L_likes_right : Stmt := top 48
abbrev s_L_many_undone : Stmt := top 49
abbrev s_law : Stmt := top 50
abbrev s_InvalidRankings : Stmt := inClass (top 3) 0
abbrev s_InvalidPerson : Stmt := inClass (top 5) 0
abbrev s_InvalidSwap : Stmt := inClass (top 7) 0
abbrev s_NothingToUndo : Stmt := inClass (top 8) 0
abbrev s_row_init : Stmt := inClass (top 25) 0
abbrev s_row_rankings : Stmt := inClass (top 25) 1
abbrev s_row_arrangement : Stmt := inClass (top 25) 2
abbrev s_row_allowed : Stmt := inClass (top 25) 3
abbrev s_row_record : Stmt := inClass (top 25) 4
abbrev s_row_swap : Stmt := inClass (top 25) 5
abbrev s_row_rerank : Stmt := inClass (top 25) 6
abbrev s_row_undo : Stmt := inClass (top 25) 7
abbrev s_row_log : Stmt := inClass (top 25) 8
abbrev s_row_copy : Stmt := inClass (top 25) 14
abbrev s_row_len : Stmt := inClass (top 25) 15
abbrev s_row_eq : Stmt := inClass (top 25) 16
abbrev FnP (K : PySem.W.Frag) (x qual : Str) (st : Stmt) (f : Addr) (fd : FuncData) : Prop := FunD K x qual (defArgs st) (defBody st) (defScope st) [] [] f fd
def d_is_integer : He.DefD := ⟨("is_integer", none), "is_integer", "is_integer", defArgs s_is_integer, defBody s_is_integer, defScope s_is_integer, [], []⟩
def d_is_number_below : He.DefD := ⟨("is_number_below", none), "is_number_below", "is_number_below", defArgs s_is_number_below, defBody s_is_number_below, defScope s_is_number_below, [], []⟩
def d_is_ranking : He.DefD := ⟨("is_ranking", none), "is_ranking", "is_ranking", defArgs s_is_ranking, defBody s_is_ranking, defScope s_is_ranking, [], []⟩
def d_check_rankings : He.DefD := ⟨("check_rankings", none), "check_rankings", "check_rankings", defArgs s_check_rankings, defBody s_check_rankings, defScope s_check_rankings, [], []⟩
def d_check_person : He.DefD := ⟨("check_person", none), "check_person", "check_person", defArgs s_check_person, defBody s_check_person, defScope s_check_person, [], []⟩
def d_rank_tables : He.DefD := ⟨("rank_tables", none), "rank_tables", "rank_tables", defArgs s_rank_tables, defBody s_rank_tables, defScope s_rank_tables, [], []⟩
def d_check_arrangement : He.DefD := ⟨("check_arrangement", none), "check_arrangement", "check_arrangement", defArgs s_check_arrangement, defBody s_check_arrangement, defScope s_check_arrangement, [], []⟩
def d_check_fitting : He.DefD := ⟨("check_fitting", none), "check_fitting", "check_fitting", defArgs s_check_fitting, defBody s_check_fitting, defScope s_check_fitting, [], []⟩
def d_is_allowed_there : He.DefD := ⟨("is_allowed_there", none), "is_allowed_there", "is_allowed_there", defArgs s_is_allowed_there, defBody s_is_allowed_there, defScope s_is_allowed_there, [], []⟩
def d_allowed_swaps : He.DefD := ⟨("allowed_swaps", none), "allowed_swaps", "allowed_swaps", defArgs s_allowed_swaps, defBody s_allowed_swaps, defScope s_allowed_swaps, [], []⟩
def d_swapped : He.DefD := ⟨("swapped", none), "swapped", "swapped", defArgs s_swapped, defBody s_swapped, defScope s_swapped, [], []⟩
def d_L_mixed : He.DefD := ⟨("_law_mixed", none), "_law_mixed", "_law_mixed", defArgs s_L_mixed, defBody s_L_mixed, defScope s_L_mixed, [], []⟩
def d_L_folded : He.DefD := ⟨("_law_folded", none), "_law_folded", "_law_folded", defArgs s_L_folded, defBody s_L_folded, defScope s_L_folded, [], []⟩
def d_L_draw : He.DefD := ⟨("_law_draw", none), "_law_draw", "_law_draw", defArgs s_L_draw, defBody s_L_draw, defScope s_L_draw, [], []⟩
def d_L_begun : He.DefD := ⟨("_law_begun", none), "_law_begun", "_law_begun", defArgs s_L_begun, defBody s_L_begun, defScope s_L_begun, [], []⟩
def d_L_mixed_up : He.DefD := ⟨("_law_mixed_up", none), "_law_mixed_up", "_law_mixed_up", defArgs s_L_mixed_up, defBody s_L_mixed_up, defScope s_L_mixed_up, [], []⟩
def d_L_walked : He.DefD := ⟨("_law_walked", none), "_law_walked", "_law_walked", defArgs s_L_walked, defBody s_L_walked, defScope s_L_walked, [], []⟩
def d_L_lists : He.DefD := ⟨("_law_lists", none), "_law_lists", "_law_lists", defArgs s_L_lists, defBody s_L_lists, defScope s_L_lists, [], []⟩
def d_L_likes : He.DefD := ⟨("_law_likes", none), "_law_likes", "_law_likes", defArgs s_L_likes, defBody s_L_likes, defScope s_L_likes, [], []⟩
def d_L_may : He.DefD := ⟨("_law_may", none), "_law_may", "_law_may", defArgs s_L_may, defBody s_L_may, defScope s_L_may, [], []⟩
def d_L_after : He.DefD := ⟨("_law_after", none), "_law_after", "_law_after", defArgs s_L_after, defBody s_L_after, defScope s_L_after, [], []⟩
def d_L_any_row : He.DefD := ⟨("_law_any_row", none), "_law_any_row", "_law_any_row", defArgs s_L_any_row, defBody s_L_any_row, defScope s_L_any_row, [], []⟩
def d_L_recorded : He.DefD := ⟨("_law_recorded", none), "_law_recorded", "_law_recorded", defArgs s_L_recorded, defBody s_L_recorded, defScope s_L_recorded, [], []⟩
def d_L_is_ranked : He.DefD := ⟨("_law_is_ranked", none), "_law_is_ranked", "_law_is_ranked", defArgs s_L_is_ranked, defBody s_L_is_ranked, defScope s_L_is_ranked, [], []⟩
def d_L_is_below : He.DefD := ⟨("_law_is_below", none), "_law_is_below", "_law_is_below", defArgs s_L_is_below, defBody s_L_is_below, defScope s_L_is_below, [], []⟩
def d_L_error : He.DefD := ⟨("_law_error", none), "_law_error", "_law_error", defArgs s_L_error, defBody s_L_error, defScope s_L_error, [], []⟩
def d_L_changed : He.DefD := ⟨("_law_changed", none), "_law_changed", "_law_changed", defArgs s_L_changed, defBody s_L_changed, defScope s_L_changed, [], []⟩
def d_L_class : He.DefD := ⟨("_law_class", none), "_law_class", "_law_class", defArgs s_L_class, defBody s_L_class, defScope s_L_class, [], []⟩
def d_L_told : He.DefD := ⟨("_law_told", none), "_law_told", "_law_told", defArgs s_L_told, defBody s_L_told, defScope s_L_told, [], []⟩
def d_L_change : He.DefD := ⟨("_law_change", none), "_law_change", "_law_change", defArgs s_L_change, defBody s_L_change, defScope s_L_change, [], []⟩
def d_L_do : He.DefD := ⟨("_law_do", none), "_law_do", "_law_do", defArgs s_L_do, defBody s_L_do, defScope s_L_do, [], []⟩
def d_L_is_so : He.DefD := ⟨("_law_is_so", none), "_law_is_so", "_law_is_so", defArgs s_L_is_so, defBody s_L_is_so, defScope s_L_is_so, [], []⟩
def d_L_likes_right : He.DefD := ⟨("_law_likes_right", none), "_law_likes_right", "_law_likes_right", defArgs s_L_likes_right, defBody s_L_likes_right, defScope s_L_likes_right, [], []⟩
def d_L_many_undone : He.DefD := ⟨("_law_many_undone", none), "_law_many_undone", "_law_many_undone", defArgs s_L_many_undone, defBody s_L_many_undone, defScope s_L_many_undone, [], []⟩
def d_law : He.DefD := ⟨("law", none), "law", "law", defArgs s_law, defBody s_law, defScope s_law, [], []⟩
def d_InvalidRankings : He.DefD := ⟨("InvalidRankings", some "__init__"), "__init__", "InvalidRankings.__init__", defArgs s_InvalidRankings, defBody s_InvalidRankings, defScope s_InvalidRankings, [.non], []⟩
def d_InvalidPerson : He.DefD := ⟨("InvalidPerson", some "__init__"), "__init__", "InvalidPerson.__init__", defArgs s_InvalidPerson, defBody s_InvalidPerson, defScope s_InvalidPerson, [], []⟩
def d_InvalidSwap : He.DefD := ⟨("InvalidSwap", some "__init__"), "__init__", "InvalidSwap.__init__", defArgs s_InvalidSwap, defBody s_InvalidSwap, defScope s_InvalidSwap, [], []⟩
def d_NothingToUndo : He.DefD := ⟨("NothingToUndo", some "__init__"), "__init__", "NothingToUndo.__init__", defArgs s_NothingToUndo, defBody s_NothingToUndo, defScope s_NothingToUndo, [], []⟩
def d_row_init : He.DefD := ⟨("LiveRow", some "__init__"), "__init__", "LiveRow.__init__", defArgs s_row_init, defBody s_row_init, defScope s_row_init, [], [("arrangement", .non)]⟩
def d_row_rankings : He.DefD := ⟨("LiveRow", some "rankings"), "rankings", "LiveRow.rankings", defArgs s_row_rankings, defBody s_row_rankings, defScope s_row_rankings, [], []⟩
def d_row_arrangement : He.DefD := ⟨("LiveRow", some "arrangement"), "arrangement", "LiveRow.arrangement", defArgs s_row_arrangement, defBody s_row_arrangement, defScope s_row_arrangement, [], []⟩
def d_row_allowed : He.DefD := ⟨("LiveRow", some "allowed"), "allowed", "LiveRow.allowed", defArgs s_row_allowed, defBody s_row_allowed, defScope s_row_allowed, [], []⟩
def d_row_record : He.DefD := ⟨("LiveRow", some "record"), "record", "LiveRow.record", defArgs s_row_record, defBody s_row_record, defScope s_row_record, [], []⟩
def d_row_swap : He.DefD := ⟨("LiveRow", some "swap"), "swap", "LiveRow.swap", defArgs s_row_swap, defBody s_row_swap, defScope s_row_swap, [], []⟩
def d_row_rerank : He.DefD := ⟨("LiveRow", some "rerank"), "rerank", "LiveRow.rerank", defArgs s_row_rerank, defBody s_row_rerank, defScope s_row_rerank, [], []⟩
def d_row_undo : He.DefD := ⟨("LiveRow", some "undo"), "undo", "LiveRow.undo", defArgs s_row_undo, defBody s_row_undo, defScope s_row_undo, [], []⟩
def d_row_log : He.DefD := ⟨("LiveRow", some "log"), "log", "LiveRow.log", defArgs s_row_log, defBody s_row_log, defScope s_row_log, [], []⟩
def d_row_copy : He.DefD := ⟨("LiveRow", some "copy"), "copy", "LiveRow.copy", defArgs s_row_copy, defBody s_row_copy, defScope s_row_copy, [], []⟩
def d_row_len : He.DefD := ⟨("LiveRow", some "__len__"), "__len__", "LiveRow.__len__", defArgs s_row_len, defBody s_row_len, defScope s_row_len, [], []⟩
def d_row_eq : He.DefD := ⟨("LiveRow", some "__eq__"), "__eq__", "LiveRow.__eq__", defArgs s_row_eq, defBody s_row_eq, defScope s_row_eq, [], []⟩
def fn : List He.DefD := [d_is_integer, d_is_number_below, d_is_ranking, d_check_rankings, d_check_person, d_rank_tables, d_check_arrangement, d_check_fitting, d_is_allowed_there, d_allowed_swaps, d_swapped, d_L_mixed, d_L_folded, d_L_draw, d_L_begun, d_L_mixed_up, d_L_walked, d_L_lists, d_L_likes, d_L_may, d_L_after, d_L_any_row, d_L_recorded, d_L_is_ranked, d_L_is_below, d_L_error, d_L_changed, d_L_class, d_L_told, d_L_change, d_L_do, d_L_is_so, d_L_likes_right, d_L_many_undone, d_law, d_InvalidRankings, d_InvalidPerson, d_InvalidSwap, d_NothingToUndo, d_row_init, d_row_rankings, d_row_arrangement, d_row_allowed, d_row_record, d_row_swap, d_row_rerank, d_row_undo, d_row_log, d_row_copy, d_row_len, d_row_eq]
def fa : List He.Fa := [.glo "is_integer", .glo "is_number_below", .glo "is_ranking", .glo "check_rankings", .glo "check_person", .glo "rank_tables", .glo "check_arrangement", .glo "check_fitting", .glo "is_allowed_there", .glo "allowed_swaps", .glo "swapped", .glo "_law_mixed", .glo "_law_folded", .glo "_law_draw", .glo "_law_begun", .glo "_law_mixed_up", .glo "_law_walked", .glo "_law_lists", .glo "_law_likes", .glo "_law_may", .glo "_law_after", .glo "_law_any_row", .glo "_law_recorded", .glo "_law_is_ranked", .glo "_law_is_below", .glo "_law_error", .glo "_law_changed", .glo "_law_class", .glo "_law_told", .glo "_law_change", .glo "_law_do", .glo "_law_is_so", .glo "_law_likes_right", .glo "_law_many_undone", .glo "law", .glo "SwaprowError", .glo "InvalidRankings", .glo "InvalidArrangement", .glo "InvalidPerson", .glo "InvalidItem", .glo "InvalidSwap", .glo "NothingToUndo", .glo "LiveRow", .free "isinstance", .free "int", .free "bool", .free "tuple", .free "len", .free "all", .free "set", .free "enumerate", .free "range", .free "list", .free "sorted", .free "dict", .int "MAX_PEOPLE" 40, .cls "LiveRow", .mkr "LiveRow", .noat "LiveRow" "own_rankings", .noat "LiveRow" "own_arrangement", .noat "LiveRow" "changes", .noat "LiveRow" "states", .meth "LiveRow" "rankings", .meth "LiveRow" "arrangement", .meth "LiveRow" "allowed", .meth "LiveRow" "record", .meth "LiveRow" "swap", .meth "LiveRow" "rerank", .meth "LiveRow" "undo", .meth "LiveRow" "log", .meth "LiveRow" "copy", .meth "LiveRow" "__len__", .meth "LiveRow" "__eq__", .exm "InvalidRankings" "SwaprowError" true, .exm "InvalidPerson" "SwaprowError" true, .exm "InvalidSwap" "SwaprowError" true, .exm "NothingToUndo" "SwaprowError" true]
/-- what an own exception class over SwaprowError must say -/
def oexB (K : PySem.W.Frag) (C : Addr) : Bool := match K.lookup C with
  | some ⟨.type "type", _, .cls cd, sl⟩ => (match cd.mro, sl.toList with
    | .ref C' :: bm, [_, _, _, _, some (.builtin n), _] => C' == C && (n == "ValueError.__new__" && (!cd.hasDel && (PySem.HandSPX.refsVE bm && cd.hasDict)))
    | _, _ => false)
  | _ => false
open He in
def oneB (K : PySem.W.Frag) (x f : Str) : Bool :=
  (oexB K (ga K x) && (eqO (PySem.W.findIn K (.ref (ga K x)) "__setattr__") (some (some (.builtin "object.__setattr__"))) && (decide (PySem.W.subIn K (.ref (ga K x)) (.type "BaseException") = some true) && (decide (PySem.W.typeIn K (.ref (ga K x)) = some (.type "type")) && (PySem.W.keepIn K (.ref (ga K x)) && (eqO (PySem.W.findIn K (.ref (ga K x)) "__getattribute__") (some (some (.builtin "BaseException.__getattribute__"))) && (eqO (PySem.W.findIn K (.ref (ga K x)) "__getattr__") (some none) && (PySem.W.hasDictIn K (ga K x) && (eqO (PySem.W.findIn K (.ref (ga K x)) "__class__") (some (some (.builtin "object.__class__"))) && (decide (PySem.W.mroIn K (ga K x) (.type "object") = some true) && (eqO (PySem.W.findIn K (.ref (ga K x)) f) (some none) && (eqO (PySem.W.findIn K (.ref (ga K x)) "__init__") (some (some (.ref (ma K (ga K x) "__init__")))) && decide (PySem.W.typeIn K (.ref (ma K (ga K x) "__init__")) = some (.type "function"))))))))))))))
open He in
def kitB (K : PySem.W.Frag) (x y : Str) (b : Bool) : Bool := decide (PySem.W.kitOne K (.ref (ga K x)) (.ref (ga K y)) = some b)
def isiB (K : PySem.W.Frag) (x : Str) : Bool := (["InvalidSwap", "InvalidPerson", "InvalidItem", "InvalidRankings", "InvalidArrangement", "NothingToUndo"] : List Str).all fun y => kitB K x y (decide (x = y))
open He in
def supB (K : PySem.W.Frag) : Bool := match PySem.W.findCls K (.ref (ga K "SwaprowError")) (.type "type") "__init__" with
  | some (.val (.builtin n)) => n == "ValueError.__init__"
  | _ => false
open He in
def rowB (K : PySem.W.Frag) : Bool := decide (PySem.W.kitOne K (.ref (ga K "LiveRow")) (.ref (ga K "LiveRow")) = some true) && (decide (PySem.W.kitOne K (.type "NoneType") (.ref (ga K "LiveRow")) = some false) && (decide (PySem.W.kitOne K (.type "int") (.ref (ga K "LiveRow")) = some false) && (decide (PySem.W.kitOne K (.type "tuple") (.ref (ga K "LiveRow")) = some false) &&
  (decide (PySem.W.subIn K (.ref (ga K "LiveRow")) (.type "NoneType") = some false) && (decide (PySem.W.subIn K (.ref (ga K "LiveRow")) (.type "int") = some false) && (decide (PySem.W.subIn K (.ref (ga K "LiveRow")) (.type "tuple") = some false) && (PySem.W.isFn K (.ref (ma K (ga K "LiveRow") "__eq__")) &&
  (PySem.W.isFn K (.ref (ma K (ga K "LiveRow") "__len__")) && !decide ((He.cT K ("_law_many_undone", none)).2 = (He.cT K ("law", none)).2)))))))))
open He in
/-- the facts besides -/
def exB (K : PySem.W.Frag) : Bool :=
  (oneB K "InvalidRankings" "person" && (oneB K "InvalidPerson" "value" && (oneB K "InvalidSwap" "value" && (oneB K "NothingToUndo" "value" && (isiB K "InvalidRankings" && (isiB K "InvalidPerson" && (isiB K "InvalidSwap" && (isiB K "NothingToUndo" && (eqO (PySem.W.specialIn K (.builtin "object.__class__") "__get__") (some (some (.builtin "getset_descriptor.__get__"))) && (decide (PySem.W.takesIn K (.builtin "object.__class__") = some true) && (eqO (PySem.W.findIn K (.ref (ga K "LiveRow")) "__class__") (some (some (.builtin "object.__class__"))) && (decide (PySem.W.mroIn K (ga K "LiveRow") (.type "object") = some true) && (eqO (PySem.W.findIn K (.ref (ga K "LiveRow")) "__ne__") (some (some (.builtin "object.__ne__"))) && (eqO (PySem.W.findIn K (.ref (ga K "SwaprowError")) "__init__") (some (some (.builtin "ValueError.__init__"))) && (PySem.W.readsIn K (ga K "SwaprowError") (.type "type") && (eqO (PySem.W.specialIn K (.ref (ga K "SwaprowError")) "__getattribute__") (some (some (.builtin "type.__getattribute__"))) && (supB K && rowB K)))))))))))))))))
/-- the two defs that make lambdas -/
def tf : List He.Defn := [("_law_many_undone", none), ("law", none)]
end Sw
set_option maxHeartbeats 4000000
/-! Swaprow: rules of our own for exceptions -/
namespace PySem.W
open PySem PySem.Spec PySem.Calls PyProof.Rows
section
variable {prog : Program} {w : World} {A : Around} {E : Value → Shared → Prop} {s : Shared} {K : Frag} {x D : Addr} {ox : Obj} {od : Option Obj}
theorem sw_findObj_data {C : Addr} {name : Str} {a g : Value} (hc : (clsIn K C).isSome = true) (ha : findIn K (.ref C) name = some (some a)) (hg : specialIn K a "__get__" = some (some g)) (ht : takesIn K a = some true) : findObj K C od name = some (.bind g a) := by
  obtain ⟨cd, hc⟩ := Option.isSome_iff_exists.mp hc
  unfold findObj
  rw [hc, Option.bind_some, ha, Option.bind_some]
  simp [hg, ht]
theorem sw_kin_class {Q : Option Value → Shared → Prop} (hga : findIn K (.ref D) "__getattribute__" = some (some (.builtin "BaseException.__getattribute__"))) (hgt : findIn K (.ref D) "__getattr__" = some none) (hsub : subIn K (.ref D) (.type "BaseException") = some true)
    (hdct : hasDictIn K D = true) (ha : findIn K (.ref D) "__class__" = some (some (.builtin "object.__class__")))
    (hn : specialIn K (.builtin "object.__class__") "__get__" = some (some (.builtin "getset_descriptor.__get__"))) (htk : takesIn K (.builtin "object.__class__") = some true) (hm : mroIn K D (.type "object") = some true)
    (X : K.In s.heap) (I : InstAt s.heap x ox D od) (h : Q (some (.ref D)) { s with toks := s.toks + 1 }) : wpAny (model prog w) A (getAttr? (.ref x) "__class__") Q E s := by
  have hf : findObj K D od "__class__" = some (.bind (.builtin "getset_descriptor.__get__") (.builtin "object.__class__")) := sw_findObj_data (by obtain ⟨cd, hc, _⟩ := any_some hdct; rw [hc]; rfl) ha hn htk
  obtain ⟨hp, g, d, t, os⟩ := s
  have L0 := I.type (M := model prog w)
  have L1 := looks_findIn (M := model prog w) X hga
  have L2 := looks_findIn (M := model prog w) X hgt
  have L3 := looks_find (M := model prog w) X I hf
  have sub : Looks (model prog w) hp (isInstance (.ref x) (.type "BaseException")) true := L0.andThen (looks_subIn X hsub)
  have hx0 : (false && onTheHeap (Value.builtin "BaseException.__getattribute__")) = false := rfl
  have hx2 : (Value.builtin "BaseException.__getattribute__" == Value.builtin "object.__getattribute__") = false := by decide +kernel
  have hx1 : (onTheHeap (Value.ref D) && Value.builtin "BaseException.__getattribute__" == Value.builtin "object.__getattribute__") = false := by rw [hx2]; rfl
  unfold getAttr? getAttrBy? getAttrBy
  refine wpAny_bind (wpAny_mkText (wpAny_bind (wpAny_attempt (wpAny_holding (wpAny_bind (L0.at (wpAny_bind (L1.at ?_))))))))
  show wpAny _ _ (if (onTheHeap (Value.ref D) && Value.builtin "BaseException.__getattribute__" == Value.builtin "object.__getattribute__") = true then _ else _) _ _ _
  rw [hx1, if_neg Bool.false_ne_true]
  unfold getAttrByItsOwn hookBefore
  refine wpAny_bind ?_
  rw [if_pos (show onTheHeap (Value.ref D) = true from rfl)]
  refine L2.at ?_
  refine wpAny_bind (wpAny_attempt (wpAny_holding ?_))
  unfold callGetattribute
  rw [hx0, if_neg Bool.false_ne_true]
  unfold boundAndCalled
  rw [PySem.F.excAttr_ValueError.ga.bind (.ref x)]
  refine wpAny_bind (wpAny_pure ?_)
  show wpAny _ _ (call (.builtin "BaseException.__getattribute__") [.ref x, .str "__class__" t]) _ _ _
  refine wpAny_call (codeAny_call_builtin PySem.F.excAttr_ValueError.ga.plain PySem.F.entry_bexc_ga ?_)
  refine @check_slot (model prog w) _ _ ⟨hp, g, d, t + 1, os⟩ "BaseException.__getattribute__" "BaseException" "__getattribute__" (.ref x) [.str "__class__" t] [] _ (by decide +kernel) (by decide +kernel) sub (PySem.F.args_bexc_ga (.ref x) (.str "__class__" t)) ?_
  unfold Builtin.«object.__getattribute__»
  refine wpAny_bind (wpAny_of_eq (a := ((Value.ref x : Value), [Value.str "__class__" t])) (by first | rfl | (simp only [slotArgs]; rfl)) ?_)
  refine wpAny_bind (wpAny_pure (wpAny_bind (L0.at (wpAny_bind (L3.at ?_)))))
  show wpAny _ _ (holding [Value.builtin "object.__class__"] (call (.builtin "getset_descriptor.__get__") [.builtin "object.__class__", .ref x, .ref D]) >>= ret) _ _ _
  refine wpAny_bind (wpAny_holding (wpAny_call (class_get (s := ⟨hp, g, d, t + 1, os⟩) (ox := ox) (od := od) X I hm ?_)))
  refine wpAny_pure ?_
  show wpAny _ _ (handedOut (.ref D)) _ _ _
  rw [handedOut_of (v := .ref D) rfl]
  first
    | exact wpAny_pure (wpAny_pure h)
    | exact wpAny_pure h
    | exact wpAny_pure (wpAny_bind (wpAny_pure (wpAny_pure h)))
theorem sw_kitx (hga : findIn K (.ref D) "__getattribute__" = some (some (.builtin "BaseException.__getattribute__"))) (hgt : findIn K (.ref D) "__getattr__" = some none) (hsub : subIn K (.ref D) (.type "BaseException") = some true) (hdct : hasDictIn K D = true) (ha : findIn K (.ref D) "__class__" = some (some (.builtin "object.__class__")))
    (hn : specialIn K (.builtin "object.__class__") "__get__" = some (some (.builtin "getset_descriptor.__get__"))) (htk : takesIn K (.builtin "object.__class__") = some true) (hm : mroIn K D (.type "object") = some true) :
    KitX K (.ref x) (.ref D) (fun h => InstAt h x ox D od) where
  ty := fun _ _ _ I => I.type
  it := fun _ _ X _ => by
    obtain ⟨cdD, hcD, _⟩ := any_some hdct
    unfold clsIn at hcD
    split at hcD
    · rename_i c' d' cd' sl' ho
      intro A' Q' E' s' k q
      unfold isType loadHead
      exact wpAny_bind (wpAny_loadPart (k _ _ (X _ _ ho)) (wpAny_pure q))
    · cases hcD
  ne := fun h tp dd its n sl X htp => by
    obtain ⟨cdD, hcD, _⟩ := any_some hdct
    refine Bool.eq_false_iff.mpr fun q => ?_
    have e : D = tp := Value.ref.inj (beq_iff_eq.mp q)
    subst e
    unfold clsIn at hcD
    split at hcD
    · rename_i c' d' cd' sl' ho
      have z := (X _ _ ho).symm.trans htp
      cases z
    · cases hcD
  ca := fun X I k => sw_kin_class hga hgt hsub hdct ha hn htk hm X I k
end
end PySem.W
namespace L2
open PySem PySem.Spec PyProof.Rows
/-! ### an exception that is kept -/
/-- at a: an exception of the class at C, its dict at d -/
def exk (a C : Addr) (d : Option Addr) : HO := .ext fun h => ∃ (oe : Obj) (vs : Array Value), h.get? a = some oe ∧ Zc (.ref C) d oe ∧ oe.data = .fields vs
theorem exk_ok {P : Program} {w : World} {H : Hp} {h : Heap} {a C : Addr} {d : Option Addr} {oe : Obj} {vs : Array Value} (he : h.get? a = some oe) (hz : Zc (.ref C) d oe) (hd : oe.data = .fields vs) : ObjOk P w H h a (exk a C d) :=
  ⟨⟨oe, vs, he, hz, hd⟩, ⟨_, he⟩, fun h1 h2 z k => by
    obtain ⟨oe, vs, q, z2⟩ := z
    exact ⟨oe, vs, k _ q, z2⟩⟩
theorem exk_at {P : Program} {w : World} {H : Hp} {h : Heap} {a C : Addr} {d : Option Addr} (hok : HOk P w H h) (he : H a = some (exk a C d)) : ∃ (oe : Obj) (vs : Array Value), h.get? a = some oe ∧ Zc (.ref C) d oe ∧ oe.data = .fields vs := by
  have x : ObjOk P w H h a (.ext fun h => ∃ (oe : Obj) (vs : Array Value), h.get? a = some oe ∧ Zc (.ref C) d oe ∧ oe.data = .fields vs) := hok a _ he
  exact x.1
section
variable {X : Cx} {pins : List (Addr × Obj)} {σ : St} {H : Hp} {s : Shared}
/-- a thing made within the def is tracked from here on -/
theorem Inv.track {a : Addr} {o : HO} (I : Inv X pins σ H s) (hn : H a = none) (hl : a ≠ X.env.locals) (hc : ∀ x c, X.env.cells.lookup x = some c → c ≠ a) (hp : ∀ p ∈ X.pn ++ pins, p.1 ≠ a) (hs : X.s_0.heap.get? a = none)
    (ok : ObjOk X.prog X.w (upd H a o) s.heap a o) : Inv X pins σ (upd H a o) s := by
  refine ⟨I.ok, I.os, I.bare, ⟨I.base.keep, I.base.slot, fun b u q n hx => ?_, I.base.there, fun b xs q => ?_, fun b u v q => ?_, fun b ps q => ?_⟩, I.loc, I.cell, ?_, fun x c q => ?_, fun p q => ?_, fun b u q => ?_, I.len⟩
  · by_cases e : b = a
    · rw [e, hs] at q; cases q
    · rw [upd_ne e]; exact I.base.free b u q n hx
  · have z := I.base.tups b xs q
    rw [upd_ne (ne_of_none z hn)]; exact z
  · have z := I.base.frzs b u v q
    rw [upd_ne (ne_of_none z hn)]; exact z
  · obtain ⟨m, z⟩ := I.base.tbls b ps q
    exact ⟨m, by rw [upd_ne (ne_of_none z hn)]; exact z⟩
  · rw [upd_ne (Ne.symm hl)]; exact I.free
  · rw [upd_ne (hc x c q)]; exact I.freeC x c q
  · obtain ⟨e, n, r⟩ := I.pin p q
    exact ⟨e, by rw [upd_ne (hp p q)]; exact n, r⟩
  · by_cases e : b = a
    · subst e
      rw [upd_same] at q
      cases q
      exact ok
    · rw [upd_ne e] at q
      exact (I.hok b u q).stay (fun _ _ _ z => z) (fun c z => by rw [upd_ne (ne_of_none z hn)]; exact z) fun c xs z => by rw [upd_ne (ne_of_none z hn)]; exact z
end
/-- what the clause 'except x as n' wishes, the exception being kept; slot i is n's -/
def wKeep (K : PySem.W.Frag) (c : Value) (i : Nat) (ts : TS) (D : Ends) : WX := fun cls d σ H =>
  PySem.W.exmOne K cls c = some true ∧ ∃ C, cls = .ref C ∧ ∀ a, H a = none → ts { nx := fun σ' H' => H' a = none → D.nx (σ'.set i none) (upd H' a (exk a C d)), rt := fun _ _ => False, bk := fun _ _ => False, ct := fun _ _ => False } (σ.set i (some (.ref a))) H
section
variable {X : Cx} {x n : Str} {c : Value} {i : Nat} {body suite : List Stmt} {b₀ : Stmt} {np pos pos' : Pos} {tb : WX → TS} {ts : TS}
theorem ps_try_keep (hs : X.stack = X.env :: X.outer) (hf : X.env.frame = some X.env.locals) (hex : X.ex = []) (hN : X.N.Nodup) (hi : X.N[i]? = some n) (hln : X.env.kindOf n = some .local) (hc : Names X x c)
    (hb : ∀ (W : WX) (pn : List (Addr × Obj)) (xe : Value → Shared → Prop), Takes (X.tr pn xe) W → PassesOwn (model X.prog X.w) X.A X.env xe → PSs (X.tr pn xe) body (tb W))
    (hsu : ∀ (a : Addr) (oe : Obj) (pn : List (Addr × Obj)), PSs (X.suite a ((a, oe) :: pn)) (b₀ :: suite) ts) :
    PS X (.Try body [.ExceptHandler (some (.Name x np)) (some n) (b₀ :: suite) pos'] [] [] pos) (fun D σ H => tb (wKeep X.K c i ts D) D σ H) := by
  refine ⟨fun pins s σ H D I h => ?_⟩
  have ok := I.ok
  have hfr : X.A.frames = some (X.env :: X.outer) := by rw [ok.frames, hs]
  have hloc : Loc X.env.scope n := .inl hln
  refine wpAny_Try_except ?_
  refine wpAny_mono ((hb (wKeep X.K c i ts D) (X.pn ++ pins) (fun e s₁ => wpAny (model X.prog X.w) X.A (noteFrame e X.env) (fun _ s₂ => wpAny (model X.prog X.w) X.A (setFlight e none) (fun _ s₃ =>
    wpAny (model X.prog X.w) X.A (handleBy e X.env [.ExceptHandler (some (.Name x np)) (some n) (b₀ :: suite) pos']) (SP X pins D) X.xe s₃) X.xe s₂) X.xe s₁) (fun u s' xx => ?_) PassesOwn.looking).run [] s σ H D (I.toTry _) h) (fun f s1 hsp => ?_) (fun e s1 he => he)
  · -- the catch
    obtain ⟨a, B, sI, pins', σ', H', cls, d, rfl, J', nb, up, sky, na, os, ag, hb1, C, rfl, hyes⟩ := xx
    have J : Inv X pins σ' H' sI := J'.ofTry ok
    have sky' : Sky B (X.env :: X.outer) a (Zc (.ref C) d) X.env.locals s'.heap := by rw [← hs]; exact sky
    show wpAny (model X.prog X.w) X.A (noteFrame (.ref a) X.env) _ _ _
    refine Sky.land Zc.steady hfr hf sky' fun h3 fl3 up3 => ?_
    have J3 : Inv X pins σ' H' { s' with heap := h3 } := J.landed nb fl3.1 (up.trans up3) os ag
    obtain ⟨oe3, vs3, he3, hz3, hd3⟩ := fl3.there
    have notFr : ∀ {h : Heap} {o : Obj} {vs : Array Value}, h.FunFrames B (X.env :: X.outer) → h.get? a = some o → o.data = .fields vs → a ∉ frs (X.env :: X.outer) := fun {h o vs} ff e dd hm => by
      obtain ⟨_, o', e', hnf⟩ := ff.mem hm
      rw [e] at e'; cases e'
      exact hnf _ dd
    have nfr := notFr fl3.2.2.1 he3 hd3
    have nL : a ≠ X.env.locals := fun z => nfr (List.mem_filterMap.mpr ⟨X.env, List.mem_cons_self, by rw [hf, z]⟩)
    have nF : a ∉ X.fs := fun hm => by
      obtain ⟨e, he, q⟩ := List.mem_filterMap.mp hm
      exact nfr (List.mem_filterMap.mpr ⟨e, List.mem_cons_of_mem _ he, q⟩)
    have nI : sI.heap.get? a = none := by
      cases q : sI.heap.get? a with
      | none => rfl
      | some o =>
        have z := nb a o q (by rw [hs]; exact nfr)
        rw [fl3.2.1] at z
        cases z
    have n0 : X.s_0.heap.get? a = none := by
      cases q : X.s_0.heap.get? a with
      | none => rfl
      | some o =>
        obtain ⟨o', z⟩ := J.base.there a o q (by rw [hex]; simp)
        rw [nI] at z
        cases z
    have np_ : ∀ p ∈ X.pn ++ pins, p.1 ≠ a := fun p hp z => by
      have q := (J.pin p hp).1
      rw [z, nI] at q
      cases q
    have nc_ : ∀ y c', X.env.cells.lookup y = some c' → c' ≠ a := fun y c' e z => by
      obtain ⟨v, q⟩ := J.cell y c' e
      obtain ⟨o, q1, _⟩ := q
      rw [z, nI] at q1
      cases q1
    have S3 := J3.suite he3 hd3 na nL nF
    refine wpAny_handleBy_cons (codeAny_handlers_test ?_) (by intro q; cases q)
    have LT : PySem.W.Looks (model X.prog X.w) h3 (typeOf (.ref a)) (.ref C) := fun A Q E s k q => wpAny_typeOf_ref (k _ _ he3) (by rw [hz3.1]; exact q)
    have LM := PySem.W.exm_one (M := model X.prog X.w) (J3.kIn) LT hb1
    have test : ∀ {Q : Value → Shared → Prop} {E : Value → Shared → Prop}, Q c { s' with heap := h3 } → wpAny (model X.prog X.w) (X.A.mark (some (.ref a))) (eval (.Name x np) X.env) Q E { s' with heap := h3 } := fun {Q E} q => by
      obtain ⟨hg, hdbg, hm | ⟨hm, hv, hnn⟩⟩ := hc
      · exact ld_glob (X := X.suite a ((a, oe3) :: (X.pn ++ pins))) S3 hg hm q hdbg
      · exact ld_blt (X := X.suite a ((a, oe3) :: (X.pn ++ pins))) S3 hg hm hv q hnn hdbg
    refine test (LM.here ?_)
    refine codeAny_handlers_suite_as ?_
    refine HandSPX.lands_againZ fl3 fun h4 fl4 up4 => ?_
    have J4 : Inv X pins σ' H' { s' with heap := h4 } := J.landed nb fl4.1 ((up.trans up3).trans up4) os ag
    obtain ⟨oe4, vs4, he4, hz4, hd4⟩ := fl4.there
    have S4 := J4.suite he4 hd4 na nL nF
    refine store_ok (X := X.suite a ((a, oe4) :: (X.pn ++ pins))) (v := .ref a) S4 hN hi hloc rfl (fun s5 S5 => ?_) (.inr hln)
    refine wpAny_mono ((hsu a oe4 (X.pn ++ pins)).run [] s5 _ H' _ S5 (hyes a na)) (fun f s6 hsp => ?_) (fun _ _ z => False.elim z)
    cases f with
    | next =>
      obtain ⟨σ6, H6, S6, q6⟩ := hsp
      obtain ⟨p1, p2, _⟩ := S6.pin (a, oe4) (List.mem_append_left _ List.mem_cons_self)
      have S7 : Inv X pins σ6 H6 s6 := S6.unsuite ok
      have S8 : Inv X pins σ6 (upd H6 a (exk a C d)) s6 := S7.track p2 nL nc_ np_ n0 (exk_ok p1 hz4 hd4)
      exact gone_ok S8 hN hi hln fun s7 J7 => ⟨_, _, J7, q6 p2⟩
    | brk =>
      obtain ⟨σ6, H6, S6, q6⟩ := hsp
      exact q6.elim
    | cont =>
      obtain ⟨σ6, H6, S6, q6⟩ := hsp
      exact q6.elim
    | ret u =>
      obtain ⟨v6, σ6, H6, S6, r6, q6⟩ := hsp
      exact q6.elim
  · cases f with
    | next =>
      obtain ⟨σ', H', J', q⟩ := hsp
      exact wpAny_execs_nil ⟨σ', H', J'.ofTry ok, q⟩
    | brk =>
      obtain ⟨σ', H', J', q⟩ := hsp
      exact ⟨σ', H', J'.ofTry ok, q⟩
    | cont =>
      obtain ⟨σ', H', J', q⟩ := hsp
      exact ⟨σ', H', J'.ofTry ok, q⟩
    | ret u =>
      obtain ⟨v, σ', H', J', r, q⟩ := hsp
      exact ⟨v, σ', H', J'.ofTry ok, r, q⟩
end
/-! ### isinstance and fields of a kept exception -/
/-- H d, where the dict is -/
def DxOk (H : Hp) : Option Addr → Prop
  | none => True
  | some d => ∃ fs, H d = some (.xd fs)
def rIsK (K : PySem.W.Frag) (D : Addr) : List V → Hp → VK → Prop := fun xs H Q => ∃ (a : Addr) (d : Option Addr) (C : Addr) (b : Bool), xs = [.ref a, .ref C] ∧ H a = some (exk a D d) ∧ DxOk H d ∧ PySem.W.kitOne K (.ref D) (.ref C) = some b ∧ Q (.bl b) H
theorem call_isK {X : Cx} {D : Addr} (C : ExcC X.K D) : CallR X (.builtin "isinstance") (rIsK X.K D) := by
  intro pins s σ H xs us Q I r h
  obtain ⟨a, d, c, b, rfl, ha, hd, e, q⟩ := h
  cases r with
  | cons rx rr =>
    cases rr with
    | cons rt rr =>
      cases rr
      cases rx
      cases rt
      obtain ⟨oe, vs, hget, hz, hv⟩ := exk_at I.hok ha
      have J : ∃ od, PySem.W.InstAt s.heap a oe D od := by
        obtain ⟨oc, od, oda, osl⟩ := oe
        obtain ⟨h1, h2⟩ := hz
        dsimp only at h1 h2 hv
        subst h1 h2 hv
        cases od with
        | none => exact ⟨none, hget, rfl, rfl, trivial⟩
        | some dd =>
          obtain ⟨fs, hx⟩ := hd
          have hx2 : ObjOk X.prog X.w H s.heap dd (.xd fs) := I.hok dd _ hx
          obtain ⟨mA, ⟨o, es, ep, ho, _⟩, _⟩ := hx2
          exact ⟨some o, hget, rfl, rfl, ho⟩
      obtain ⟨od, J⟩ := J
      exact PySem.W.kia_one (PySem.W.sw_kitx C.hg C.hk C.hs C.hd C.ha C.hn C.ht C.hm) I.kIn J e (fun z => nomatch z) fun tk => ⟨.bl b, H, I.kept (t' := tk) fun _ _ z => z, rfl, q⟩
/-- err.f of a kept exception -/
def tXk (K : PySem.W.Frag) (f : Str) (te : TE) : TE := fun σ H Q => te σ H fun x H1 => ∃ (a C d : Addr) (fs : List (Str × V)) (v : V), x = .ref a ∧ H1 a = some (exk a C (some d)) ∧ H1 d = some (.xd fs) ∧ XfC K C ∧ PySem.W.findIn K (.ref C) f = some none ∧ fs.lookup f = some v ∧ Q v H1
theorem pe_xk {X : Cx} {e : Expr} {te : TE} {pos : Pos} {n : Str} (he : PE X e te) (hb : attributeBase e n X.env (eval e X.env) = eval e X.env := by rfl) : PE X (.Attribute e n pos) (tXk X.K n te) := by
  refine ⟨fun pins s σ H Q I h => ?_⟩
  refine attr_of hb (thn (he.run pins s σ H _ I h) fun u s1 hh => ?_)
  obtain ⟨x, H1, I1, rx, a, C, dd, fs, v, ex, ea, ed, T, hno, l, q⟩ := hh
  subst ex
  obtain rfl : u = Value.ref a := rx
  obtain ⟨oe, vs, ha, hz, hd⟩ := exk_at I1.hok ea
  have hx : ObjOk X.prog X.w H1 s1.heap dd (.xd fs) := I1.hok dd _ ed
  obtain ⟨mA, hns, hr⟩ := hx
  obtain ⟨od, ho, hl⟩ := lookIn_ns hns
  obtain ⟨u, hu, ru⟩ := RelO.some_of (v := v) (o := mA n) (by rw [← l]; exact hr n)
  have J : PySem.W.InstAt s1.heap a oe C (some od) := ⟨ha, hz.1, by unfold PySem.W.notCls; rw [hd] <;> rfl, by rw [hz.2]; exact ho⟩
  exact HandSPX.exc_get I1.kIn J T.ga T.gg T.exC (PySem.W.findObj_own T.hdC hno rfl (by rw [hl, hu])) (handed_of ru) ⟨v, H1, I1.tok _, ru, q⟩
/-! ### C.__init__(self, 'text'), C over ValueError without an __init__ of its own -/
theorem pe_supinit {X : Cx} {C : Addr} {c : Str} {e : Expr} {es : List Expr} {ta : TA} {p1 p2 pos : Pos} {pl : Sem Bool} (hg : Gl X c) (hm : X.mg c = some (.ref C)) (rd : ClX.CRead X.K C (.type "type")) (cv : PySem.W.findCls X.K (.ref C) (.type "type") "__init__" = some (.val (.builtin "ValueError.__init__"))) (ha : PA X (e :: es) ta)
    (hdb : (c == ("__debug__" : Str)) = false := by decide)
    (hc : eval (.Call (.Attribute (.Name c p1) "__init__" p2) (e :: es) [] pos) X.env = (do
      let ov ← eval (.Name c p1) X.env
      standAt p2.atName
      let (f, first) ← holding [ov] (getMethod ov "__init__" pl)
      callWith pos f first (backTo pos (starEach (e :: es) X.env)) (backToKw pos (keywordEach [] X.env))) := by rfl)
    (he : starEach (e :: es) X.env = (false, eval e X.env) :: starEach es X.env := by rfl) (hpl : (backTo pos (starEach es X.env)).any (·.1) = false := by rfl) :
    PE X (.Call (.Attribute (.Name c p1) "__init__" p2) (e :: es) [] pos) (tVeI X.K ta) := by
  refine ⟨fun pins s σ H Q I h => ?_⟩
  refine PySem.W.methodCall_KW (ld_glob I hg hm ?_ hdb) hc
  refine PySem.W.method_cls I.kIn rd.ga (PySem.W.cls_value I.kIn rd.rd cv (by decide +kernel) ?_)
  show wpAny _ _ (callWith pos (Value.builtin "ValueError.__init__") [] (backTo pos (starEach (e :: es) X.env)) []) _ _ _
  refine PyProof.Rows.callWith_method1 (thn (ha.run pos pins _ σ H _ (I.tok _) h) fun us s1 ⟨vs, H1, I1, r1, a, C, ws, ev, hl, T, ea, q⟩ => ?_) he hpl
  subst ev
  cases r1 with
  | @cons _ u0 _ ur ra rw' =>
    obtain rfl : u0 = Value.ref a := ra
    have hlen : ur.length ≤ sizeLine := by
      rw [← Paired.length rw', sizeLine_eq]
      omega
    exact oinit_ok T I1 ea hlen fun s' J => ⟨.non, H1, J, rfl, q⟩
/-! ### raise C() where C's own __init__ sets no field -/
def tMkO0 (C : Addr) (sp : Sp) : St → Hp → XK → Prop := fun σ H Q => ∀ a, H a = none → sp [.ref a] (upd H a (exo a C none)) (fun v H2 => v = .non ∧ H2 a = some (exo a C none) ∧ Q (.ref C) none (del H2 a)) (fun _ _ _ => False)
theorem mk_endN {X : Cx} {pins : List (Addr × Obj)} {σ : St} {H1 H2 : Hp} {Q : XK} {hp hp2 h2 : Heap} {g1 g2 : Array GenState} {d1 d2 : Drawn} {t1 t2 : Nat} {os1 os2 : OsState} {a C : Addr} (T : Raises X (.ref C)) (I1 : Inv X pins σ H1 ⟨hp, g1, d1, t1, os1⟩)
    (ha : hp.objs.size ≤ a) (k : ∀ b o, hp.get? b = some o → hp2.get? b = some o) (un : Un (frs X.stack) [] (upd H1 a (exo a C none)) H2 hp2 h2) (hok : HOk X.prog X.w H2 h2) (ho : os2 = os1) (hb : AllBare g2)
    (ea : H2 a = some (exo a C none)) (q : Q (.ref C) none (del H2 a)) : MkP X pins σ Q (.ref a) ⟨h2, g2, d2, t2, os2⟩ := by
  obtain ⟨t0, hoe⟩ := exo_at hok ea
  have hn : H1 a = none := I1.hok.fresh ha
  obtain ⟨G, g1', g2'⟩ := restrict h2 fun b => decide (b ≠ a)
  have gk : ∀ b, b ≠ a → G.get? b = h2.get? b := fun b hb => g1' b (decide_eq_true hb)
  have ge : G.get? a = none := g2' a (by simp)
  have nha : ∀ {b : Addr} {o : Obj}, hp.get? b = some o → b ≠ a := fun {b o} z => Nat.ne_of_lt (Nat.lt_of_lt_of_le (Heap.lt_size z) ha)
  have up : ∀ {b : Addr}, b ≠ a → H1 b = none → upd H1 a (exo a C none) b = none := fun {b} hb n => by rw [upd_ne hb]; exact n
  have U : Un (frs X.stack) [] H1 (del H2 a) hp G := {
    keep := fun b o z n hf hx => by
      rw [gk b (nha z)]
      exact un.keep b o (k b o z) (up (nha z) n) hf hx
    slot := fun b o z n hf hx => by
      rw [gk b (nha z)]
      exact un.slot b o (k b o z) (up (nha z) n) hf hx
    free := fun b o z n hx => by
      rw [del_ne (nha z)]
      exact un.free b o (k b o z) (up (nha z) n) hx
    there := fun b o z hx => by
      rw [gk b (nha z)]
      exact un.there b o (k b o z) hx
    tups := fun b xs z => by
      rw [del_ne (ne_of_none z hn)]
      exact un.tups b xs (by rw [upd_ne (ne_of_none z hn)]; exact z)
    frzs := fun b o v z => by
      rw [del_ne (ne_of_none z hn)]
      exact un.frzs b o v (by rw [upd_ne (ne_of_none z hn)]; exact z)
    tbls := fun b ps z => by
      rw [del_ne (ne_of_none z hn)]
      exact un.tbls b ps (by rw [upd_ne (ne_of_none z hn)]; exact z) }
  have hok3 : HOk X.prog X.w (del H2 a) G := fun b o z => by
    have hba : b ≠ a := fun e => by
      rw [e, del_same] at z
      cases z
    rw [del_ne hba] at z
    have noa : ∀ {c : Addr}, H2 c = some (.own b) → c ≠ a := fun {c} hc => at_ne ea hc exo_own
    exact (hok b o z).stay (fun c v hc y => by
        have hca : c ≠ a := by
          rcases hc with hc | hc
          · rw [hc]
            exact hba
          · exact noa hc
        rw [gk c hca]
        exact y)
      (fun c hc => by rw [del_ne (noa hc)]; exact hc) (fun c xs hc => by rw [del_ne (at_ne ea hc exo_tup)]; exact hc)
  have J : Inv X pins σ (del H2 a) ⟨G, g2, d2, t2, os2⟩ := I1.call' (ch := []) ho U hok3 hb (fun b z => absurd z (by simp))
  refine ⟨a, _, _, ⟨G, g2, d2, t2, os2⟩, _, .ref C, none, rfl, J, fun b o z => ?_, ge, hoe, ⟨rfl, rfl⟩, rfl, rfl, del_same, rfl, hb, T, q⟩
  by_cases hba : b = a
  · rw [hba, ge] at z
    cases z
  · exact (gk b hba).symm.trans z
theorem pmk_oex0 {X : Cx} {CX : CXT} {x : Str} {p pos : Pos} {C fI : Addr} {k : Nat} {fd : FuncData} {ps : List Str} {sp : Sp} (T : OexC X.K C) (iC : PySem.W.findIn X.K (.ref C) "__init__" = some (some (.ref fI))) (tI : PySem.W.typeIn X.K (.ref fI) = some (.type "function"))
    (F1 : FnOk X.prog X.w X.K X.mg X.base CX k fI fd ps sp) (hr : Room (k + 1) X.A) (hb : Binds X.K fd ps []) (hx : Passes CX X (fun _ _ _ => False)) (hg : Gl X x) (hm : X.mg x = some (.ref C))
    (hdb : (x == ("__debug__" : Str)) = false := by decide) : PMk X (.Call (.Name x p) [] [] pos) (tMkO0 C sp) := by
  intro pins s σ H Q I h
  obtain ⟨nm, q, N, bs, bm, sn, sub, ab, col, dd, k0, k1, k2, k3, k5, hC, hbm⟩ := T.cls
  refine wpAny_Call_Name_kw (ld_glob I hg hm ?_ hdb)
  refine PySem.W.callWith_K0 I.kIn T.kC ?_
  show wpAny _ _ (call (.ref C) []) _ _ _
  obtain ⟨hp, g, dr, tk, os⟩ := s
  have hsz : hp.objs.size ≤ hp.objs.size + 1 := Nat.le_succ _
  have hn : H (hp.objs.size + 1) = none := I.hok.fresh hsz
  have hq := h (hp.objs.size + 1) hn
  have kk : ∀ b o, hp.get? b = some o → ((hp.push (PySem.W.kdv_tup [])).push (PySem.HandSPX.excO C hp.objs.size)).get? b = some o := fun b o e => Heap.get?_push_of_some _ (Heap.get?_push_of_some _ e)
  have hget : ((hp.push (PySem.W.kdv_tup [])).push (PySem.HandSPX.excO C hp.objs.size)).get? (hp.objs.size + 1) = some (PySem.HandSPX.excO C hp.objs.size) := by heap_get
  have I2 : Inv X pins σ (upd H (hp.objs.size + 1) (exo (hp.objs.size + 1) C none)) ⟨(hp.push (PySem.W.kdv_tup [])).push (PySem.HandSPX.excO C hp.objs.size), g, dr, tk, os⟩ :=
    I.laid (t' := tk) (a := hp.objs.size + 1) (o := exo (hp.objs.size + 1) C none) (h' := (hp.push (PySem.W.kdv_tup [])).push (PySem.HandSPX.excO C hp.objs.size)) kk hsz (exo_ok hget)
  have r2 : Vals [V.ref (hp.objs.size + 1)] [Value.ref (hp.objs.size + 1)] := .cons rfl .nil
  have hl : [Value.ref (hp.objs.size + 1)].length = ps.length := by
    have e := r2.length
    rw [F1.len _ _ _ _ hq] at e
    exact e.symm
  refine wpAny_call (PySem.HandSPX.call_own F.excBase_ValueError (fun Y => PySem.HandSPX.refsVE_contains Y bm hbm) (I.kIn _ _ hC) (PySem.W.looks_findIn I.kIn iC) (fun self => PySem.W.bind_fn I.kIn self tI) (by rw [sizeLine_eq]; decide)
    (codeAny_mono (F1.run _ X.stack _ _ ⟨[Value.ref (hp.objs.size + 1)], []⟩ [Value.ref (hp.objs.size + 1)] _ _ (fun _ _ _ => False) (hr.make C [] []) (I2.env0.make C [] []) (hb _ [Value.ref (hp.objs.size + 1)] I2.kIn hl) r2 hq) fun r s' hq' => ?_))
  cases r with
  | error er => exact hx pins σ _ _ er s' I2 hq'
  | ok fl =>
    cases fl with
    | ret u =>
      obtain ⟨v, H2, os2, bare2, un2, hok2, rv, ev, ea, q2⟩ := hq'
      subst ev
      obtain ⟨h2, g2, d2, t2, os'⟩ := s'
      exact ⟨rv, mk_endN (raises_own T.exC T.tyC) I hsz kk un2 hok2 os2 bare2 ea q2⟩
    | next => exact False.elim hq'
    | brk => exact False.elim hq'
    | cont => exact False.elim hq'
end L2
set_option maxHeartbeats 4000000
/-! Swaprow: rules of our own: ==, !=, in by an own __eq__; len by an own __len__ -/
namespace PySem.W
open PySem PySem.Spec PySem.Calls PyProof.Rows
section
variable {prog : Program} {w : World} {A : Around} {E : Value → Shared → Prop} {s : Shared} {K : Frag} {x C f L : Addr} {h₀ : Heap} {m : Str → Option Value} {ox : Obj} {od : Option Obj} {name : Str} {b tb : Value}
theorem sw_ifBound_B {M : Model} {id : String} {args : List Value} {Q : Option Value → Shared → Prop} (X : K.In s.heap) (I : InstAt s.heap x ox C od) (hs : findIn K (.ref C) name = some (some (.builtin id)))
    (hb : bindSpecial (.builtin id) (.ref x) = pure (.builtin id, [.ref x]))
    (h : wpAny M A (call (.builtin id) (.ref x :: args)) (fun v => Q (some v)) E s) : wpAny M A (callSpecialIfBound? (.ref x) name args) Q E s := by
  simp only [callSpecialIfBound?, bindSpecialIfBound?]
  refine wpAny_holding (wpAny_bind (wpAny_bind (wpAny_bind (I.type.here ((looks_findIn X hs).here ?_)))))
  refine wpAny_bind (wpAny_askSetting (wpAny_ite ?_))
  have fin : wpAny M A (call (.builtin id) ([.ref x] ++ args) >>= fun v => pure (some v)) Q E s := wpAny_bind (wpAny_mono h (fun v s' h' => wpAny_pure h') fun _ _ h' => h')
  rw [hb]
  split
  · exact wpAny_bind (wpAny_pure (wpAny_pure (by exact fin)))
  · exact wpAny_tryCatch (wpAny_bind (wpAny_pure (wpAny_pure (by exact fin))))
/-- what == of one's own gives: a bool -/
def SwBB (Q : Bool → Shared → Prop) (v : Value) (s' : Shared) : Prop := ∃ b, v = .bool b ∧ Q b s'
theorem sw_try_eq {Q : Option Value → Shared → Prop} (X : K.In s.heap) (I : InstAt s.heap x ox C od) (hs : findIn K (.ref C) "__eq__" = some (some (.ref f))) (hf : isFn K (.ref f) = true)
    (h : wpAny (model prog w) A (call (.ref f) [.ref x, b]) (SwBB fun c => Q (some (.bool c))) E s) : wpAny (model prog w) A (tryCompare (.ref x) "__eq__" b) Q E s := by
  unfold tryCompare
  refine wpAny_bind (ifBound_K X I hs hf (wpAny_mono h (fun v s' hv => ?_) fun _ _ e => e))
  obtain ⟨c, rfl, q⟩ := hv
  exact wpAny_pure q
theorem sw_objne {Q : Fin → Shared → Prop} (X : K.In s.heap) (I : InstAt s.heap x ox C od) (hs : findIn K (.ref C) "__eq__" = some (some (.ref f))) (hf : isFn K (.ref f) = true) (hu : A.units < cLine)
    (h : wpAny (model prog w) A (call (.ref f) [.ref x, b]) (SwBB fun c => Q (.done (.ret (.bool (!c))))) E s) : wpAny (model prog w) A (Builtin.«object.__ne__» ⟨[.ref x, b], []⟩) Q E s := by
  unfold Builtin.«object.__ne__»
  refine wpAny_bind (wpAny_of_eq (a := ((Value.ref x : Value), [b])) (by first | rfl | (simp only [slotArgs]; rfl)) ?_)
  refine wpAny_bind (wpAny_cRoomFor hu ?_)
  refine wpAny_bind (ifBound_K X I hs hf (wpAny_mono h (fun v s' hv => ?_) fun _ _ e => e))
  obtain ⟨c, rfl, q⟩ := hv
  exact wpAny_bind (wpAny_truthy_bool (wpAny_pure q))
theorem sw_try_ne {Q : Option Value → Shared → Prop} (X : K.In s.heap) (I : InstAt s.heap x ox C od) (hn : findIn K (.ref C) "__ne__" = some (some (.builtin "object.__ne__"))) (hs : findIn K (.ref C) "__eq__" = some (some (.ref f))) (hf : isFn K (.ref f) = true)
    (hm : mroIn K C (.type "object") = some true) (hu : A.in1.units < cLine)
    (h : wpAny (model prog w) A.in1 (call (.ref f) [.ref x, b]) (SwBB fun c => Q (some (.bool (!c)))) E s) : wpAny (model prog w) A (tryCompare (.ref x) "__ne__" b) Q E s := by
  unfold tryCompare
  refine wpAny_bind (sw_ifBound_B X I hn (PySem.F.slot_object_ne.bind _) ?_)
  have sub : Looks (model prog w) s.heap (isInstance (.ref x) (.type "object")) true := I.type.andThen (looks_mroIn X hm)
  refine wpAny_call (codeAny_call_builtin PySem.F.slot_object_ne.plain PySem.F.entry_object_ne ?_)
  refine @check_slot (model prog w) _ _ s "object.__ne__" "object" "__ne__" (.ref x) [b] [] _ PySem.F.cmpKind_ne PySem.F.cmpSplit_ne sub (PySem.F.args_object_ne_2 _ _) ?_
  refine sw_objne X I hs hf hu (wpAny_mono h (fun v s' hv => ?_) fun _ _ e => e)
  obtain ⟨c, rfl, q⟩ := hv
  exact ⟨c, rfl, wpAny_pure q⟩
theorem sw_eq {Q : Value → Shared → Prop} (hu : A.units < cLine) (X : K.In s.heap) (I : InstAt s.heap x ox C od) (hb : Looks (model prog w) s.heap (typeOf b) tb) (hn : notFirst K C tb = true)
    (hs : findIn K (.ref C) "__eq__" = some (some (.ref f))) (hf : isFn K (.ref f) = true)
    (h : wpAny (model prog w) A (call (.ref f) [.ref x, b]) (SwBB fun c => Q (.bool c)) E s) : wpAny (model prog w) A (richCompare .Eq (.ref x) b) Q E s := by
  have one : wpAny (model prog w) A (tryCompare (.ref x) "__eq__" b) (fun r s' => ∃ v, r = some v ∧ Q v s') E s :=
    sw_try_eq X I hs hf (wpAny_mono h (fun v s' hv => by obtain ⟨c, rfl, q⟩ := hv; exact ⟨c, rfl, _, rfl, q⟩) fun _ _ e => e)
  unfold richCompare
  simp only [oneThing_ref]
  refine wpAny_holding (wpAny_bind (wpAny_cRoomFor hu ?_))
  refine wpAny_bind (I.type.here (wpAny_bind (hb.here ?_)))
  split
  · rename_i q
    have e : subIn K tb (.ref C) = some false := by
      rcases Bool.or_eq_true_iff.mp hn with e | e
      · rw [beq_iff_eq.mp e] at q; simp at q
      · exact beq_iff_eq.mp e
    refine wpAny_bind ((looks_subIn X e).here ?_)
    simp only [Bool.false_eq_true, if_false]
    refine wpAny_bind (wpAny_mono one (fun r s' z => ?_) fun _ _ e => e)
    obtain ⟨v, rfl, hq⟩ := z
    exact wpAny_pure hq
  · refine wpAny_bind (wpAny_pure ?_)
    simp only [Bool.false_eq_true, if_false]
    refine wpAny_bind (wpAny_mono one (fun r s' z => ?_) fun _ _ e => e)
    obtain ⟨v, rfl, hq⟩ := z
    exact wpAny_pure hq
theorem sw_ne {Q : Value → Shared → Prop} (hu : A.units < cLine) (hu1 : A.in1.units < cLine) (X : K.In s.heap) (I : InstAt s.heap x ox C od) (hb : Looks (model prog w) s.heap (typeOf b) (.ref C))
    (hne : findIn K (.ref C) "__ne__" = some (some (.builtin "object.__ne__"))) (hs : findIn K (.ref C) "__eq__" = some (some (.ref f))) (hf : isFn K (.ref f) = true) (hm : mroIn K C (.type "object") = some true)
    (h : wpAny (model prog w) A.in1 (call (.ref f) [.ref x, b]) (SwBB fun c => Q (.bool (!c))) E s) : wpAny (model prog w) A (richCompare .NotEq (.ref x) b) Q E s := by
  have one : wpAny (model prog w) A (tryCompare (.ref x) "__ne__" b) (fun r s' => ∃ v, r = some v ∧ Q v s') E s :=
    sw_try_ne X I hne hs hf hm hu1 (wpAny_mono h (fun v s' hv => by obtain ⟨c, rfl, q⟩ := hv; exact ⟨c, rfl, _, rfl, q⟩) fun _ _ e => e)
  unfold richCompare
  simp only [oneThing_ref]
  refine wpAny_holding (wpAny_bind (wpAny_cRoomFor hu ?_))
  refine wpAny_bind (I.type.here (wpAny_bind (hb.here ?_)))
  rw [if_neg (by simp)]
  refine wpAny_bind (wpAny_pure ?_)
  simp only [Bool.false_eq_true, if_false]
  refine wpAny_bind (wpAny_mono one (fun r s' z => ?_) fun _ _ e => e)
  obtain ⟨v, rfl, hq⟩ := z
  exact wpAny_pure hq
/-- u == x, u of a built-in type whose own == declines -/
theorem sw_eq_back {T id : String} {u : Value} {Q : Value → Shared → Prop} (hu : A.units < cLine) (X : K.In s.heap) (I : InstAt s.heap x ox C od) (hT : s.TypeIs u T) (sl : Slot T "__eq__" id) (hsub : subIn K (.ref C) (.type T) = some false)
    (hc1 : ∀ Q' : Value → Shared → Prop, Q' .notImplemented s → wpAny (model prog w) A (call (.builtin id) [u, .ref x]) Q' E s)
    (hs : findIn K (.ref C) "__eq__" = some (some (.ref f))) (hf : isFn K (.ref f) = true)
    (h : wpAny (model prog w) A (call (.ref f) [.ref x, u]) (SwBB fun c => Q (.bool c)) E s) : wpAny (model prog w) A (richCompare .Eq u (.ref x)) Q E s := by
  have one : wpAny (model prog w) A (tryCompare (.ref x) "__eq__" u) (fun r s' => ∃ v, r = some v ∧ Q v s') E s :=
    sw_try_eq X I hs hf (wpAny_mono h (fun v s' hv => by obtain ⟨c, rfl, q⟩ := hv; exact ⟨c, rfl, _, rfl, q⟩) fun _ _ e => e)
  unfold richCompare
  simp only [hT.oneThing_none]
  refine wpAny_holding (wpAny_bind (wpAny_cRoomFor hu ?_))
  refine wpAny_bind (wpAny_typeOf hT (wpAny_bind (I.type.here ?_)))
  rw [if_pos (show ((Value.type T != Value.ref C) = true) from rfl)]
  refine wpAny_bind ((looks_subIn X hsub).here ?_)
  simp only [Bool.false_eq_true, if_false, Bool.not_false, if_true]
  refine wpAny_bind (m := tryCompare u _ (.ref x)) (wpAny_tryCompare_declines hT sl (hc1 _ ⟨rfl, ?_⟩))
  refine wpAny_bind (m := tryCompare (.ref x) _ u) (wpAny_mono one (fun r s' z => ?_) fun _ _ e => e)
  obtain ⟨v, rfl, hq⟩ := z
  exact wpAny_pure hq
end
end PySem.W

namespace PySem.SeqAt
open AutoSeq1 (wpAny_loadPart')
open MeetsSeq MeetsSeq2 MeetsSeq3 SeqRoads2
section
variable {prog : Program} {w : World} {A : Around} {E : Value → Shared → Prop} {R : Result → Shared → Prop}
theorem sw_contains_loop (l : Addr) (N : Nat) (x : Value) (I : Nat → Shared → Prop)
    (hl : ∀ i s, I i s → ∃ (items : Array Value) (n : Nat), s.heap.get? l = some { cls := .type "list", data := .seq items n } ∧ items.size = N ∧ ∀ (h : i < items.size), wpAny (model prog w) A.in1 (eqBool items[i] x) (fun r s' => r = false ∧ I (i + 1) s') (fun e s' => R (.error e) s') s)
    (fin : ∀ s, I N s → R (.ok (.ret (.bool false))) s) (k : Nat) :
    ∀ i : Nat, N - i = k → i ≤ N → ∀ s, I i s →
      wpAny (model prog w) A.in1 (Builtin.«list.__contains__.loop» ⟨[.ref l, x, rawInt i], []⟩) (GQ.FinOf prog w A R) (fun e s' => R (.error e) s') s := by
  induction k with
  | zero =>
    intro i hk hi s h
    obtain ⟨items, n, hl1, hs1, _⟩ := hl _ _ h
    have hi' : i = N := by omega
    have hR : R (.ok (.ret (.bool false))) s := fin s (hi' ▸ h)
    obtain ⟨hp, g, d, tk, os⟩ := s
    wp_walk using wpAny_loadPart' hl1
    have hi1 : items[((i : Nat) : Int).toNat]? = none := by simp; omega
    rw [hi1]
    wp_walk
    exact hR
  | succ k ih =>
    intro i hk hi s h
    obtain ⟨items, n, hl1, hs1, turn⟩ := hl _ _ h
    have hlt : i < items.size := by omega
    have ht := turn hlt
    obtain ⟨hp, g, d, tk, os⟩ := s
    wp_walk using wpAny_loadPart' hl1
    have hi1 : items[((i : Nat) : Int).toNat]? = some items[i] := by simp [hlt]
    have hc : ((i : Int) + 1) = ((i + 1 : Nat) : Int) := by push_cast; rfl
    rw [hi1]
    refine wpAny_bind (wpAny_mono ht (fun r s2 h2 => ?_) fun _ _ x => x)
    obtain ⟨hr, h2⟩ := h2
    subst hr
    have hrec := ih (i + 1) (by omega) (by omega) s2 h2
    obtain ⟨hp2, g2, d2, tk2, os2⟩ := s2
    wp_walk
    rw [hc]
    exact ⟨plainId_quiet plain_contains_loop _, codeAny_builtin entry_contains_loop (by
      rw [Around.under_plainId plain_contains_loop _]
      exact hrec)⟩
theorem sw_in_list {l : Addr} {N : Nat} {x : Value} {Q : Value → Shared → Prop} (I : Nat → Shared → Prop) {s : Shared}
    (hl : ∀ i s, I i s → ∃ (items : Array Value) (n : Nat), s.heap.get? l = some { cls := .type "list", data := .seq items n } ∧ items.size = N ∧ ∀ (h : i < items.size), wpAny (model prog w) A.in1 (eqBool items[i] x) (fun r s' => r = false ∧ I (i + 1) s') E s)
    (fin : ∀ s, I N s → Q (.bool false) s) (h : I 0 s) : wpAny (model prog w) A (compareOp .In x (.ref l)) Q E s := by
  obtain ⟨items, n, hl1, hs1, _⟩ := hl _ _ h
  show wpAny _ A (do return .bool (← contains (.ref l) x)) Q E s
  refine wpAny_bind (wpAny_contains_slot (T := "list") ⟨_, hl1, rfl⟩ F.slot_list_contains (GQ.call_here F.slot_list_contains ⟨_, hl1, rfl⟩ F.entry_list_contains (F.args_list_contains_2 _ _) ?_))
  have hrec := sw_contains_loop (A := A) (R := wants (fun v s' => wpAny (model prog w) A (truthy v) (fun b s'' => wpAny (model prog w) A (pure (Value.bool b)) Q E s'') E s') E) l N x I hl (fun s' q => wpAny_truthy_bool (wpAny_pure (fin s' q))) _ 0 rfl (Nat.zero_le _) s h
  obtain ⟨hp, g, d, tk, os⟩ := s
  wp_walk using wpAny_loadPart' hl1
  exact ⟨plainId_quiet plain_contains_loop _, codeAny_builtin entry_contains_loop (by
    rw [Around.under_plainId plain_contains_loop _]
    exact hrec)⟩
end
end PySem.SeqAt
namespace PySem.SeqAt
open AutoSeq1 (wpAny_loadPart')
open MeetsSeq MeetsSeq2 MeetsSeq3 SeqRoads2
theorem sw_int_declines (b : Int) (u : Tok) (l C dx : Addr) :
    Meets (Builtin.«int.__eq__» ⟨[.int b u, .ref l], []⟩) (fun _ R s => s.heap.get? l = some (PySem.W.instObj C dx) ∧ R (.ok (.ret .notImplemented)) s) :=
  .of_wp fun prog w A R s h => by obtain ⟨hp, g, d, tk, os⟩ := s; obtain ⟨hl, h⟩ := h; wp_walk using wpAny_loadPart' hl, wpAny_load hl; exact ⟨_, rfl, h⟩
end PySem.SeqAt
namespace PySem.W
theorem sw_tuple_declines {prog : Program} {w : World} {A : Around} {E : Value → Shared → Prop} {s : Shared} {l b C : Addr} {ob : Obj} {Q : Value → Shared → Prop} (hob : s.heap.get? b = some ob) (hcl : ob.cls = .ref C) (hb : Looks (model prog w) s.heap (isSubtype (.ref C) (.type "tuple")) false) (h : Q .notImplemented s) :
    wpAny (model prog w) A.in1 (Builtin.«tuple.__eq__» ⟨[.ref l, .ref b], []⟩) (GQ.FinOf prog w A (wants Q E)) (fun e s' => wants Q E (.error e) s') s := by
  unfold Builtin.«tuple.__eq__»
  wp_walk
  rw [hcl]
  refine hb.here ?_
  simp only [Bool.not_false, if_true]
  exact wpAny_pure h
end PySem.W
namespace L2
open PySem PySem.Spec PyProof.Rows
/-- the own ==, !=, at C -/
structure OwnQ (K : PySem.W.Frag) (C f : Addr) : Prop where
  eq : PySem.W.findIn K (.ref C) "__eq__" = some (some (.ref f))
  ne : PySem.W.findIn K (.ref C) "__ne__" = some (some (.builtin "object.__ne__"))
  fn : PySem.W.isFn K (.ref f) = true
  mo : PySem.W.mroIn K C (.type "object") = some true
  sN : PySem.W.subIn K (.ref C) (.type "NoneType") = some false
  sI : PySem.W.subIn K (.ref C) (.type "int") = some false
  sT : PySem.W.subIn K (.ref C) (.type "tuple") = some false
section
variable {X : Cx} {CX : CXT} {n : Nat} {C f : Addr} {fd : FuncData} {ps : List Str} {sp : Sp} {E : XK}
theorem run_own (F : FnOk X.prog X.w X.K X.mg X.base CX n f fd ps sp) (hb : Binds X.K fd ps []) (hx : Passes CX X E) {A : Around} (sb : Sub X n A) {pins : List (Addr × Obj)} {σ : St} {H : Hp} {s : Shared} {us : List Value} {vs : List V} {Q : VK} (I : Inv X pins σ H s) (r : Vals vs us)
    (h : sp vs H Q E) : wpAny (model X.prog X.w) A (call (.ref f) us) (EP X pins σ Q) X.xe s := by
  have e0 : Env0 X.prog X.w X.K X.mg X.base A X.stack s H := by
    have e := I.env0
    exact ⟨by rw [sb.fr]; exact e.frames, e.mod, e.bs, e.bsz, e.funs, e.frf, e.hok, e.bare⟩
  have hl : us.length = ps.length := by rw [← r.length]; exact F.len _ _ _ _ h
  refine wpAny_call (codeAny_mono (F.run A X.stack s H ⟨us, []⟩ us vs _ E sb.room e0 (by
    have := hb s us I.kIn (by simpa using hl)
    simpa using this) r h) fun r s' hq => ?_)
  cases r with
  | error e => exact hx pins σ H s e s' I hq
  | ok fl =>
    cases fl with
    | ret w => exact I.after hq
    | next => exact False.elim hq
    | brk => exact False.elim hq
    | cont => exact False.elim hq
/-- a == b, a != b of two instances of C -/
def rOwnQ (C : Addr) (sp : Sp) (neg : Bool) (E : XK) : R2 := fun x y H Q => ∃ a b dx dy fs gs, x = .ref a ∧ y = .ref b ∧ H a = some (.ins C dx fs) ∧ H b = some (.ins C dy gs) ∧ sp [x, y] H (fun v H' => ∃ c, v = .bl c ∧ Q (.bl (if neg then !c else c)) H') E
theorem op_eqOwn (F : FnOk X.prog X.w X.K X.mg X.base CX n f fd ps sp) (T : OwnQ X.K C f) (hr : Room n X.A) (hb : Binds X.K fd ps []) (hx : Passes CX X E) : OpR X (compareOp .Eq) (rOwnQ C sp false E) := by
  intro pins s σ H x y v u Q I rx ry hq
  obtain ⟨a, b, dx, dy, fs, gs, rfl, rfl, ha, hb', hs⟩ := hq
  cases rx
  cases ry
  obtain ⟨mA, J, _⟩ := ins_get I.hok ha
  obtain ⟨mB, J', _⟩ := ins_get I.hok hb'
  obtain ⟨od, J, _⟩ := J.look
  obtain ⟨od', J', _⟩ := J'.look
  show wpAny (model X.prog X.w) X.A (richCompare .Eq (.ref a) (.ref b)) (EP X pins σ Q) X.xe s
  refine PySem.W.sw_eq hr.units0 I.kIn J J'.type (by simp [PySem.W.notFirst]) T.eq T.fn (wpAny_mono (run_own F hb hx ⟨hr, rfl⟩ (vs := [.ref a, .ref b]) I (.cons rfl (.cons rfl .nil)) hs) (fun r s' z => ?_) fun _ _ e => e)
  obtain ⟨v, H', I', rv, c, rfl, q⟩ := z
  cases rv
  exact ⟨c, rfl, .bl c, H', I', rfl, q⟩
theorem op_neOwn (F : FnOk X.prog X.w X.K X.mg X.base CX n f fd ps sp) (T : OwnQ X.K C f) (hr : Room (n + 1) X.A) (hb : Binds X.K fd ps []) (hx : Passes CX X E) : OpR X (compareOp .NotEq) (rOwnQ C sp true E) := by
  intro pins s σ H x y v u Q I rx ry hq
  obtain ⟨a, b, dx, dy, fs, gs, rfl, rfl, ha, hb', hs⟩ := hq
  cases rx
  cases ry
  obtain ⟨mA, J, _⟩ := ins_get I.hok ha
  obtain ⟨mB, J', _⟩ := ins_get I.hok hb'
  obtain ⟨od, J, _⟩ := J.look
  obtain ⟨od', J', _⟩ := J'.look
  show wpAny (model X.prog X.w) X.A (richCompare .NotEq (.ref a) (.ref b)) (EP X pins σ Q) X.xe s
  refine PySem.W.sw_ne hr.units0 hr.in1.units0 I.kIn J J'.type T.ne T.eq T.fn T.mo (wpAny_mono (run_own F hb hx ⟨hr.in1, rfl⟩ (vs := [.ref a, .ref b]) I (.cons rfl (.cons rfl .nil)) hs) (fun r s' z => ?_) fun _ _ e => e)
  obtain ⟨v, H', I', rv, c, rfl, q⟩ := z
  cases rv
  exact ⟨c, rfl, .bl (!c), H', I', rfl, q⟩
/-- things that are no instances of C -/
def ItK (H : Hp) (y : V) : Prop := y = .non ∨ (∃ z, y = .int z) ∨ ∃ t xs, y = .ref t ∧ H t = some (.tup xs)
/-- a in [y, ..]: no item is equal to a -/
def rInOwn (C : Addr) (sp : Sp) (E : XK) : R2 := fun x y H Q => ∃ (a l : Addr) (ys : List V) (P : Hp → Prop), x = .ref a ∧ y = .ref l ∧ P H ∧ (∀ H1, P H1 → H1 l = some (.lst ys) ∧ (∃ dx fs, H1 a = some (.ins C dx fs)) ∧ ∀ y ∈ ys, ItK H1 y ∧ sp [.ref a, y] H1 (fun v H2 => v = .bl false ∧ P H2) E) ∧ ∀ H1, P H1 → Q (.bl false) H1
theorem op_inOwn (F : FnOk X.prog X.w X.K X.mg X.base CX n f fd ps sp) (T : OwnQ X.K C f) (hr : Room (n + 2) X.A) (hb : Binds X.K fd ps []) (hx : Passes CX X E) : OpR X (compareOp .In) (rInOwn C sp E) := by
  intro pins s σ H x y v u Q I rx ry hq
  obtain ⟨a, l, ys, P, rfl, rfl, p, hp, q⟩ := hq
  cases rx
  cases ry
  refine PySem.SeqAt.sw_in_list (N := ys.length) (fun _ s' => ∃ H', Inv X pins σ H' s' ∧ P H') (fun i s' hI => ?_) (fun s' hI => ?_) ⟨H, I, p⟩
  · obtain ⟨H1, I1, p1⟩ := hI
    obtain ⟨hl, ⟨dx, fs, ha⟩, hy⟩ := hp H1 p1
    obtain ⟨z, its, k, r, e⟩ := I1.hok l _ hl
    refine ⟨its.toArray, k, e, by rw [List.size_toArray, r.length], fun h => ?_⟩
    have hi : i < its.length := by simpa using h
    have hi2 : i < ys.length := by rw [r.length]; exact hi
    obtain ⟨u, hu, ru⟩ := r.get (List.getElem?_eq_getElem hi2)
    have eu : its.toArray[i] = u := by
      have e2 : its[i]? = some its[i] := List.getElem?_eq_getElem hi
      rw [e2] at hu
      simpa using Option.some.inj hu
    rw [eu]
    obtain ⟨hk, hs⟩ := hy _ (List.getElem_mem hi2)
    obtain ⟨mA, J, _⟩ := ins_get I1.hok ha
    obtain ⟨od, J, _⟩ := J.look
    have sb : Sub X n X.A.in1 := ⟨(hr.mono (by omega : n + 1 ≤ n + 2)).in1, rfl⟩
    have back : ∀ {s2 : Shared} {u : Value}, RelV ys[i] u → Inv X pins σ H1 s2 → wpAny (model X.prog X.w) X.A.in1 (call (.ref f) [.ref a, u]) (PySem.W.SwBB fun c s' => c = false ∧ ∃ H', Inv X pins σ H' s' ∧ P H') X.xe s2 := fun {s2 u} ru I2 =>
      wpAny_mono (run_own F hb hx (vs := [.ref a, ys[i]]) sb I2 (.cons rfl (.cons ru .nil)) hs) (fun r s' z => by
        obtain ⟨v, H', I', rv, rfl, p'⟩ := z
        cases rv
        exact ⟨false, rfl, rfl, H', I', p'⟩) fun _ _ e => e
    have hu1 : X.A.in1.units < cLine := (hr.mono (by omega : n + 1 ≤ n + 2)).in1.units0
    have flat : ∀ {Tn id : String} {u : Value}, RelV ys[i] u → s'.TypeIs u Tn → Slot Tn "__eq__" id → PySem.W.subIn X.K (.ref C) (.type Tn) = some false → (u == .ref a) = false → (∀ x t, u ≠ .float x t) →
        (∀ Q' : Value → Shared → Prop, Q' .notImplemented s' → wpAny (model X.prog X.w) X.A.in1 (call (.builtin id) [u, .ref a]) Q' X.xe s') →
        wpAny (model X.prog X.w) X.A.in1 (eqBool u (.ref a)) (fun r s' => r = false ∧ ∃ H', Inv X pins σ H' s' ∧ P H') X.xe s' := fun {Tn id u} ru hT sl hsub hne hfl hc => by
      unfold eqBool
      refine wpAny_holding ?_
      refine wpAny_ite_split (fun hab => absurd hab (by rw [hne]; simp)) (fun _ => ?_)
      have fin : wpAny (model X.prog X.w) X.A.in1 (do truthOfDropped (← richCompare .Eq u (.ref a))) (fun r s' => r = false ∧ ∃ H', Inv X pins σ H' s' ∧ P H') X.xe s' := by
        refine wpAny_bind (PySem.W.sw_eq_back hu1 I1.kIn J hT sl hsub hc T.eq T.fn (wpAny_mono (back ru I1) (fun v s2 z => ?_) fun _ _ e => e))
        obtain ⟨c, rfl, rfl, z⟩ := z
        exact ⟨false, rfl, wpAny_truthy_bool ⟨rfl, z⟩⟩
      cases u with
      | float x t => exact absurd rfl (hfl x t)
      | _ => exact fin
    rcases hk with e1 | ⟨z1, e1⟩ | ⟨t, xs, e1, ht⟩
    · rw [e1] at ru
      cases ru
      exact flat (Tn := "NoneType") (by rw [e1]; rfl) rfl PySem.F.slot_NoneType_eq T.sN rfl (fun _ _ z => nomatch z) fun Q' hq' => call_gives PySem.F.slot_NoneType_eq rfl PySem.F.entry_NoneType_eq (PySem.F.args_NoneType_eq_2 _ _) (PySem.SeqAt.NoneType___eq___none_ref_0 a) hq'
    · rw [e1] at ru
      obtain ⟨tk, rfl⟩ := ru
      obtain ⟨_, ⟨hob, _, _⟩, _⟩ := ins_get I1.hok ha
      exact flat (Tn := "int") (by rw [e1]; exact ⟨tk, rfl⟩) (typeIs_int s' z1 tk) PySem.F.slot_int_eq T.sI rfl (fun _ _ z => nomatch z) fun Q' hq' =>
        call_meets PySem.F.slot_int_eq (typeIs_int s' z1 tk) PySem.F.entry_int_eq (PySem.F.args_int_eq_2 _ _) (PySem.SeqAt.sw_int_declines z1 tk a C dx) ⟨hob, hq'⟩
    · rw [e1] at ru
      cases ru
      obtain ⟨_, ⟨hob, _, _⟩, _⟩ := ins_get I1.hok ha
      obtain ⟨its2, r2, e2, z2⟩ := I1.tuple (.inl (.inl ht))
      obtain ⟨⟨cls2, dd2, data2, sl2⟩, ho2, hc2, n2, hd2⟩ := id e2
      simp only at hc2 hd2
      subst hc2 hd2
      have hta : t ≠ a := fun z => by
        rw [z, ha] at ht
        cases ht
      exact flat (Tn := "tuple") (by rw [e1]; rfl) ⟨_, ho2, rfl⟩ PySem.F.slot_tuple_eq T.sT (by simpa using hta) (fun _ _ z => nomatch z) fun Q' hq' =>
        GQ.call_here PySem.F.slot_tuple_eq ⟨_, ho2, rfl⟩ PySem.F.entry_tuple_eq (PySem.F.args_tuple_eq_2 _ _) (PySem.W.sw_tuple_declines J.at_ J.cls (PySem.W.looks_subIn I1.kIn T.sT) hq')
  · obtain ⟨H1, I1, p1⟩ := hI
    exact ⟨.bl false, H1, I1, rfl, q H1 p1⟩
/-- len(a) by its own __len__ -/
theorem call_lenOwn {g : Addr} (F : FnOk X.prog X.w X.K X.mg X.base CX n g fd ps sp) (hs : PySem.W.findIn X.K (.ref C) "__len__" = some (some (.ref g))) (hf : PySem.W.isFn X.K (.ref g) = true) (hr : Room (n + 1) X.A) (hb : Binds X.K fd ps []) (hx : Passes CX X E) :
    CallR X (.builtin "len") (fun xs H Q => ∃ a dx fs, xs = [.ref a] ∧ H a = some (.ins C dx fs) ∧ sp [.ref a] H (fun v H' => ∃ k : Nat, v = .int k ∧ k < 1000000 ∧ Q (.int k) H') E) := by
  intro pins s σ H xs us Q I r h
  obtain ⟨a, dx, fs, rfl, ha, h⟩ := h
  obtain ⟨u, rfl, rx⟩ := vals1 r
  cases rx
  obtain ⟨mA, J, _⟩ := ins_get I.hok ha
  obtain ⟨od, J, _⟩ := J.look
  obtain ⟨m, hF⟩ := I.fr
  refine PySem.W.len_K hF I.ok.mod.kin J hs hf (wpAny_mono (run_own F hb hx ⟨hr.in1, rfl⟩ (vs := [.ref a]) I (.cons rfl .nil) h) (fun v s' z => ?_) fun _ _ e => e)
  obtain ⟨v, H', I', rv, k, rfl, hk, q⟩ := z
  obtain ⟨t, rfl⟩ := rv
  exact ⟨⟨by omega, by omega⟩, .int k, H', I'.tok _, ⟨_, rfl⟩, q⟩
end
end L2
set_option maxHeartbeats 4000000
/-! Swaprow: rules of our own: enumerate(tuple), len(set(tuple)), sorted(tuple), tuple[::-1], tuple.index, (x,) * 1, a, b = attribute targets -/
namespace Sw
/-- es nodup, all of ns, as many: then ns has no item twice -/
theorem perm_of_sub : ∀ {es ns : List Int}, es.Nodup → (∀ z ∈ es, z ∈ ns) → ns.length ≤ es.length → ns.Perm es
  | [], ns, _, _, h => by
    have : ns = [] := List.eq_nil_of_length_eq_zero (by simpa using h)
    rw [this]
  | a :: es, ns, hd, hs, h => by
    obtain ⟨na, hd'⟩ := List.nodup_cons.mp hd
    have ha : a ∈ ns := hs a List.mem_cons_self
    have p := List.perm_cons_erase ha
    have hl := p.length_eq
    refine p.trans (List.Perm.cons a (perm_of_sub hd' (fun z hz => ?_) ?_))
    · have hza : z ≠ a := fun e => na (e ▸ hz)
      exact (List.mem_erase_of_ne hza).mpr (hs z (List.mem_cons_of_mem _ hz))
    · simp only [List.length_cons] at h hl
      omega
/-- how many there are: es, each of ns once -/
theorem set_count {es ns : List Int} (hd : es.Nodup) (hm : ∀ z, z ∈ ns ↔ z ∈ es) (hle : es.length ≤ ns.length) : (es.length = ns.length) = (ns.Nodup : Prop) := by
  refine propext ⟨fun e => ?_, fun h => ?_⟩
  · exact ((perm_of_sub hd (fun z hz => (hm z).mpr hz) (Nat.le_of_eq e.symm)).nodup_iff).mpr hd
  · exact ((List.perm_ext_iff_of_nodup hd h).mpr fun z => (hm z).symm).length_eq
end Sw
namespace PySem
open AutoSeq1 (wpAny_loadPart')
theorem sw_meets_enumT (l : Addr) (items : Array Value) (n : Nat) (dct : Option Addr) (sl : Array (Option Value)) :
    Meets (Builtin.«enumerate.__new__» ⟨[.type "enumerate", .ref l], []⟩) (fun _ R s => s.heap.get? l = some { cls := .type "tuple", dict := dct, data := .seq items n, slots := sl } ∧
      R (.ok (.ret (.ref (s.heap.push { cls := .type "tuple_iterator", data := .fields #[.ref l, .int 0 0] }).objs.size)))
        { s with heap := (s.heap.push { cls := .type "tuple_iterator", data := .fields #[.ref l, .int 0 0] }).push { cls := .type "enumerate", data := .fields #[.none, .bool false, .ref s.heap.objs.size, rawInt 0, .none, .none] } }) :=
  .of_wp fun prog w A R s h => by
    obtain ⟨hp, g, d, tk, os⟩ := s; obtain ⟨hl, h⟩ := h
    have hsub := sub_enumerate
    have hL : Heap.IsTuple (Shared.heap ⟨hp, g, d, tk, os⟩) l items := ⟨_, hl, rfl, n, rfl⟩
    wp_walk using wpAny_loadPart' hl
    refine wpAny_stack_any fun st => wpAny_pure ?_
    split
    · rename_i c _ _ _ _ _
      cases (c == Value.type "enumerate")
      · wp_walk using wpAny_loadPart' hl, wpAny_pyIter_tuple hL
        exact ⟨_, rfl, h⟩
      · wp_walk using wpAny_loadPart' hl, wpAny_pyIter_tuple hL
        exact ⟨_, rfl, h⟩
    · wp_walk using wpAny_loadPart' hl, wpAny_pyIter_tuple hL
      exact ⟨_, rfl, h⟩
section
variable {prog : Program} {w : World} {A : Around} {E : Value → Shared → Prop} {s : Shared}
theorem sw_call_enumT {l : Addr} {items : Array Value} {Q : Value → Shared → Prop} (hL : s.heap.IsTuple l items)
    (h : ∀ h', IsEnum h' (s.heap.objs.size + 1) s.heap.objs.size 0 .none → h'.IsTupleIter s.heap.objs.size l 0 → h'.objs.size = s.heap.objs.size + 2 →
      (∀ b o, s.heap.get? b = some o → h'.get? b = some o) → Q (.ref (s.heap.objs.size + 1)) { s with heap := h' }) :
    wpAny (model prog w) A (call (.type "enumerate") [.ref l]) Q E s := by
  obtain ⟨⟨c, dct, dt, sl⟩, hl, hc, n, hd⟩ := hL
  replace hc : c = .type "tuple" := hc
  replace hd : dt = .seq items n := hd
  subst hc hd
  refine callType_new F.called_enumerate (by decide) (F.typeCall_enumerate_1 _) (F.newCall_enumerate_1 _) (fun obj => F.args_object_init_2 obj _) F.entry_enumerate_new
    (sw_meets_enumT l items n dct sl) ⟨hl, ?_⟩
  have hz : (s.heap.push { cls := .type "tuple_iterator", data := .fields #[.ref l, .int 0 0] }).objs.size = s.heap.objs.size + 1 := Heap.size_push ..
  show _ ∧ _
  rw [hz]
  have he : IsEnum ((s.heap.push { cls := .type "tuple_iterator", data := .fields #[.ref l, .int 0 0] }).push
      { cls := .type "enumerate", data := .fields #[.none, .bool false, .ref s.heap.objs.size, rawInt 0, .none, .none] }) (s.heap.objs.size + 1) s.heap.objs.size 0 .none := by
    have := Heap.get?_push_size (s.heap.push { cls := .type "tuple_iterator", data := .fields #[.ref l, .int 0 0] })
      (o := { cls := .type "enumerate", data := .fields #[.none, .bool false, .ref s.heap.objs.size, rawInt 0, .none, .none] }) rfl
    rw [hz] at this; exact this
  refine ⟨⟨_, he, rfl⟩, h _ he ⟨_, Heap.get?_push_of_some _ (Heap.get?_push_size _ rfl), rfl, rfl⟩ (by rw [Heap.size_push, hz]) fun b o x => Heap.get?_push_of_some _ (Heap.get?_push_of_some _ x)⟩
end
end PySem
namespace L2
open PySem PySem.Spec PyProof.Rows
theorem tup_inj {X : Cx} {pins : List (Addr × Obj)} {σ : St} {H : Hp} {s : Shared} {a : Addr} {xs ys : List V} (I : Inv X pins σ H s) (h1 : Rd H a (.tup xs)) (h2 : Rd H a (.tup ys)) : xs = ys := by
  rcases h1 with h1 | ⟨o, h1⟩ <;> rcases h2 with h2 | ⟨o2, h2⟩ <;> rw [h1] at h2 <;> have e := Option.some.inj h2
  · injection e
  · cases e
  · cases e
  · injection e with e1 e2
    injection e2
/-- the tuple at a (tracked), each item in a new pair -/
def Itq (a : Addr) : It :=
  ⟨fun i H => ∃ (xs : List V) (x : V), Rd H a (.tup xs) ∧ xs[i]? = some x, fun i H v H' => ∃ T x, v = .ref T ∧ H T = none ∧ H' = upd H T (.tup [.int (i : Nat), x]) ∧ ∀ xs, Rd H a (.tup xs) → xs[i]? = some x, fun i H => ∃ xs : List V, Rd H a (.tup xs) ∧ xs.length = i⟩
theorem turn_enumT {P : Program} {w : World} {K : PySem.W.Frag} {elts : List Expr} {kk : Nat} {tpos : Pos} (a e it : Addr) :
    Turn P w K (.Tuple elts kk tpos) (Itq a) [e, it] e (fun i h => (∃ old, IsEnum h e it ((i : Nat) : Int) old) ∧ h.IsTupleIter it a i ∧ e ≠ it ∧ a ≠ it ∧ a ≠ e) where
  mem := by simp
  obj := fun i h st b hb => by
    obtain ⟨⟨old, he⟩, ⟨o, ho, hc, hd⟩, _⟩ := st
    have e' : b = e ∨ b = it := by simpa using hb
    rcases e' with z | z
    · rw [z]; exact ⟨_, he, fun v q => nomatch q⟩
    · rw [z]; exact ⟨o, ho, fun v q => by rw [hd] at q; cases q⟩
  keep := fun i h h' st k => let ⟨⟨old, he⟩, ⟨o, ho, hc, hd⟩, hne, hai, hae⟩ := st; ⟨⟨old, k e (by simp) _ he⟩, ⟨o, k it (by simp) o ho, hc, hd⟩, hne, hai, hae⟩
  item := by
    intro X hP hw hK hc i pins s σ H E I hf st hg
    subst hP hw hK
    obtain ⟨⟨old, he⟩, hit, hne, hai, hae⟩ := st
    obtain ⟨xs, x, hq, hx⟩ := hg
    obtain ⟨its, rv, p, hz⟩ := I.tuple (.inl hq)
    obtain ⟨u, hu, ru⟩ := rv.get hx
    have hel : e < s.heap.objs.size := Heap.lt_size he
    have hil : it < s.heap.objs.size := by obtain ⟨_, q, _⟩ := hit; exact Heap.lt_size q
    have hlt : i < its.toArray.size := by
      have := (List.getElem?_eq_some_iff.mp hu).1
      simpa using this
    refine wpAny_pyNext_enum_itemD (PySem.Draws.tuple (A := X.A.in1) (by have := I.ok.hd hc; simpa using this) it a hai its.toArray) he ⟨hit, p⟩ hlt hne (by simp [hne, Ne.symm hae]) fun x' h' tk hP ho hs' hT hsz hk => ?_
    have ex : x' = u := by
      have h1 : its[i]? = some x' := by simpa using hP
      rw [hu] at h1
      exact (Option.some.inj h1).symm
    subst ex
    refine ⟨_, rfl, wpAny_letOwnedTupleGo_enum (s := { s with heap := h', toks := tk + 1 }) ho fun h'' he' sb => ?_⟩
    have hT2 : h''.get? s.heap.objs.size = some { cls := .type "tuple", data := .seq #[.int i tk, x'] } := (sb.2 _ (Nat.ne_of_gt hel)).trans hT
    have new : ObjOk X.prog X.w (upd H s.heap.objs.size (.tup [.int (i : Nat), x])) h'' s.heap.objs.size (.tup [.int (i : Nat), x]) :=
      ⟨by show 2 ≤ sizeLine; decide, [.int i tk, x'], .cons ⟨_, rfl⟩ (.cons ru .nil), ⟨_, hT2, rfl, _, rfl⟩⟩
    have I1 : Inv X pins σ (upd H s.heap.objs.size (.tup [.int (i : Nat), x])) { s with heap := h'', toks := tk + 1 } :=
      I.turnedNew (ch := [e, it]) (fun b ob hb q => (sb.2 b (fun z => hb (by simp [z]))).trans (hk b ob (fun z => hb (by simp [z])) (fun z => hb (by simp [z])) q)) hf (Nat.le_refl _) new
    obtain ⟨⟨oi, hoi, hci, hdi⟩, _⟩ := hs'
    refine ⟨.ref s.heap.objs.size, _, I1, rfl, ⟨_, x, rfl, I.hok.fresh (Nat.le_refl _), rfl, fun ys hy => by rw [tup_inj I hy hq]; exact hx⟩, ⟨⟨x', ?_⟩, ⟨oi, (sb.2 it (Ne.symm hne)).trans hoi, hci, hdi⟩, hne, hai, hae⟩, fun b hb => ?_⟩
    · have e1 : ((i + 1 : Nat) : Int) = (i : Int) + 1 := by omega
      rw [e1]; exact he'
    · have hb' : b < s.heap.objs.size := by
        have e' : b = e ∨ b = it := by simpa using hb
        rcases e' with z | z
        · rw [z]; exact hel
        · rw [z]; exact hil
      rw [upd_ne (Nat.ne_of_lt hb')]
      exact (hf b hb).1
  done := by
    intro X hP hw hK hc i pins s σ H E I hf st hg
    subst hP hw hK
    obtain ⟨⟨old, he⟩, hit, hne, hai, hae⟩ := st
    obtain ⟨xs, hq, hx⟩ := hg
    obtain ⟨its, rv, p, hz⟩ := I.tuple (.inl hq)
    obtain ⟨f0, f1, f2, f3, f4, f5⟩ := hf it (by simp)
    have hl := rv.length
    have hn : i = its.toArray.size := by rw [List.size_toArray, ← hl]; exact hx.symm
    subst hn
    exact wpAny_pyNext_enum_endD (PySem.Draws.tuple (A := X.A.in1) (by have := I.ok.hd hc; simpa using this) it a hai its.toArray) he ⟨hit, p⟩ fun h' eb => ⟨rfl, I.turned (t' := s.toks) (fun b o hb q => eb b o hb q) f0 f1 f3 f4 f5⟩
  self := fun A i s Q E st h => let ⟨⟨_, he⟩, _⟩ := st; wpAny_pyIter_enum he h
def iEnumT (ta : TA) : TI := fun σ H R => ta σ H fun vs H1 => ∃ a xs, vs = [.ref a] ∧ Rd H1 a (.tup xs) ∧ R (Itq a) H1
theorem pi_enumT {X : Cx} {e : Expr} {ta : TA} {p pos tpos : Pos} {elts : List Expr} {kk : Nat} (hg : Gl X "enumerate") (hm : X.mg "enumerate" = none) (ha : PA X [e] ta) (hs : starEach [e] X.env = [(false, eval e X.env)] := by rfl) :
    PI X (.Tuple elts kk tpos) (.Call (.Name "enumerate" p) [e] [] pos) (iEnumT ta) := by
  refine ⟨fun pins s σ H R I h => ?_⟩
  refine Call_ (ld_blt I hg hm boot_enumerate (PyProof.Rows.callWith_type1 (thn (ha.run pos pins s σ H _ I h) fun us s1 ⟨vs, H1, I1, r1, q1⟩ => ?_) hs rfl))
  obtain ⟨a, xs, ex, hq, q⟩ := q1
  subst ex
  cases r1 with
  | cons r rr =>
    cases rr
    cases r
    obtain ⟨its, rv, p', hz⟩ := I1.tuple (.inl hq)
    have hal : a < s1.heap.objs.size := p'.lt
    refine sw_call_enumT p' fun h' he hit hsz hk => wpAny_pyIter_enum he ?_
    have I2 : Inv X pins σ H1 { s1 with heap := h' } := I1.kept (t' := s1.toks) hk
    refine ⟨s1.heap.objs.size + 1, [s1.heap.objs.size + 1, s1.heap.objs.size], _, _, H1, rfl, I2, turn_enumT a (s1.heap.objs.size + 1) s1.heap.objs.size, ⟨⟨.none, he⟩, hit, Nat.succ_ne_self _, Nat.ne_of_lt hal, Nat.ne_of_lt (Nat.lt_succ_of_lt hal)⟩, fun b hb => ?_, q⟩
    have e' : b = s1.heap.objs.size + 1 ∨ b = s1.heap.objs.size := by simpa using hb
    have hle : s1.heap.objs.size ≤ b := by
      rcases e' with z | z
      · rw [z]; exact Nat.le_add_right _ _
      · rw [z]; exact Nat.le_refl _
    exact I1.fpOk hle (I1.hok.fresh hle)
theorem walk_enumT {a : Addr} {xs : List V} : Walk (Itq a) xs.length (fun H => Rd H a (.tup xs)) (YPair (fun i => some (.int (i : Nat))) (fun i => xs[i]?)) := by
  refine ⟨fun i _ hi q => ⟨xs, xs[i], q, by simp [hi]⟩, fun _ q => ⟨xs, q, rfl⟩, fun i H v H' _ q y => ?_⟩
  obtain ⟨T, x, h1, h2, h3, h4⟩ := y
  exact ⟨T, .int (i : Nat), x, h1, h2, h3, rfl, h4 xs q⟩
/-! ### len(set(t)) -/
def tLenSetT (ta : TE) : TE := fun σ H Q => ta σ H fun x H1 => ∃ (l : Addr) (ns : List Int), x = .ref l ∧ Rd H1 l (.tup (ns.map V.int)) ∧ ns.length ≤ 1000 ∧ ∀ c : Nat, decide (c = ns.length) = decide ns.Nodup → Q (.int c) H1
theorem pe_lenSetT {X : Cx} {a : Expr} {ta : TE} {p p2 q pos : Pos} (hg : Gl X "len") (hm : X.mg "len" = none) (hg2 : Gl X "set") (hm2 : X.mg "set" = none) (ha : PE X a ta) (hc : X.calm = true := by rfl)
    (na : starEach [a] X.env = (false, eval a X.env) :: starEach [] X.env := by rfl) : PE X (.Call (.Name "len" p) [.Call (.Name "set" p2) [a] [] q] [] pos) (tLenSetT ta) := by
  refine ⟨fun pins s σ H Q I h => ?_⟩
  refine Call_ (ld_blt I hg hm boot_len ?_)
  refine PyProof.Rows.callWith_builtin1 (PyProof.Rows.args_cons ?_ rfl) rfl rfl
  refine Call_ (ld_blt I hg2 hm2 boot_set ?_)
  refine PyProof.Rows.callWith_type1 (PyProof.Rows.args_cons (thn (ha.run pins s σ H _ I h) fun v s1 ⟨x, H1, I1, r1, q1⟩ => PyProof.Rows.args_nil ?_) na) na rfl
  obtain ⟨l, ns, rfl, hq, hl, q1⟩ := q1
  cases r1
  obtain ⟨its, r, pl, hz⟩ := I1.tuple (.inl hq)
  refine call_set_tupI ns (I1.ok.hd hc) pl (by simpa using RZ.intsAre_vals r) (by unfold scanBound; omega) fun h' tk c hS hcl hk => ?_
  refine PyProof.Rows.args_nil ?_
  obtain ⟨o, es, ep, t, ho, hex, hd, hge, hnd, hmem, hsc, hf, hn, _⟩ := hS
  have I2 : Inv X pins σ H1 { s1 with heap := h', toks := tk } := I1.kept fun b o e => hk b o e
  refine call_len_set ho hex hd hf (by rw [hn]; omega) ⟨.int c, H1, I2.tok _, ⟨_, by rw [hn]⟩, q1 c ?_⟩
  have e1 : (es.toList.map keyOf).length = c := by rw [List.length_map, Array.length_toList, hn]
  have := Sw.set_count (es := es.toList.map keyOf) (ns := ns) hnd (fun z => by rw [← hmem z, decide_eq_true_eq]) (by rw [e1]; exact hcl)
  rw [e1] at this
  by_cases hN : ns.Nodup
  · rw [decide_eq_true hN, decide_eq_true (this.mpr hN)]
  · rw [decide_eq_false hN, decide_eq_false (fun z => hN (this.mp z))]
/-! ### sorted(t) -/
def rSortedT : List V → Hp → VK → Prop := fun vs H Q => ∃ (a : Addr) (ns : List Int), vs = [V.ref a] ∧ Rd H a (.tup (ns.map V.int)) ∧ ns.length ≤ 1000 ∧
  ∀ (ns' : List Int) (p : Addr), ns'.Perm ns → ns'.Pairwise (· ≤ ·) → H p = none → Q (.ref p) (upd H p (.lst (ns'.map V.int)))
theorem cr_sortedT {X : Cx} : CallR X (.builtin "sorted") rSortedT := by
  intro pins s σ H vs us Q I r h
  obtain ⟨a, ns, rfl, hs, hl, q⟩ := h
  obtain ⟨its, rv, pl, hz⟩ := I.tuple (.inl hs)
  rw [Vals.ref1 r]
  have hi := rv.ints
  have hlen := hi.length
  obtain ⟨ot, hot, hct, nt, hdt⟩ := id pl
  refine Calls.call_function_entry PyProof.Rows.kind_sorted PyProof.Rows.plain_sorted PyProof.Rows.entry_sorted (PyProof.Rows.args_sorted1 _) ?_
  unfold Builtin.«sorted»
  refine wpAny_bind (m := checkCount "sorted" 1 1 _) (wpAny_pure ?_)
  refine wpAny_bind (wpAny_collect_seq a (.inr rfl) hot hct hdt (fun h' hk => ?_) (by rw [List.size_toArray, hlen, sizeLine_eq]; omega))
  show wpAny _ _ (newList its >>= _) _ _ _
  refine wpAny_bind (wpAny_newList ?_)
  have hoL : (h'.push (PyProof.Rows.seqObj "list" its.toArray 0)).get? h'.objs.size = some (PyProof.Rows.seqObj "list" its.toArray 0) := Heap.get?_push_size _ rfl
  refine wpAny_bind (wpAny_holding (wpAny_call_entry PyProof.Rows.slot_list_sort ⟨_, hoL, rfl⟩ PyProof.Rows.entry_list_sort (PyProof.Rows.list_sort_treeAny hoL hi (by rw [hlen, sizeLine_eq]; omega) fun out ns' h1 h2 h3 => ⟨_, rfl, ?_⟩) (PyProof.Rows.args_list_sort _)))
  obtain ⟨ep, he'⟩ := PyProof.Rows.sortedHeap_at (vs := its) (out := out) hoL
  have I1 : Inv X pins σ H { s with heap := h' } := I.kept (t' := s.toks) hk
  refine wpAny_pure ⟨_, rfl, .ref h'.objs.size, upd H h'.objs.size (.lst (ns'.map V.int)), I1.laid (t' := s.toks) (a := h'.objs.size) (o := .lst (ns'.map V.int)) (fun b o e => ?_) (Nat.le_refl _) (show ObjOk _ _ _ _ _ (.lst _) from ⟨by rw [List.length_map, h2.length_eq, sizeLine_eq]; omega, out.toList, ep, vals_of_ints h1, he'⟩), rfl, q ns' _ h2 h3 (I1.hok.fresh (Nat.le_refl _))⟩
  have hb : b < h'.objs.size := Heap.lt_size e
  show (PyProof.Rows.sortedHeap (h'.push (PyProof.Rows.seqObj "list" its.toArray 0)) h'.objs.size its out).get? b = some o
  rw [PyProof.Rows.sortedHeap_old (Nat.ne_of_lt hb) (by rw [Heap.size_push]; exact Nat.lt_succ_of_lt hb), Heap.get?_push_ne _ _ _ (Nat.ne_of_lt hb)]
  exact e
end L2
set_option maxHeartbeats 4000000
/-! Swaprow: rules of our own: tuple[::-1], tuple.index, (x,) * 1, attribute targets -/
namespace L2
open PySem PySem.Spec PyProof.Rows HT
section
variable {prog : Program} {w : World} {A : Around} {E : Value → Shared → Prop} {s : Shared}
theorem sw_rev_pick (xs : Array Value) : ((List.range xs.size).filterMap fun (k : Nat) => xs[(((xs.size : Nat) : Int) - 1 + (k : Int) * (-1)).toNat]?).toArray = xs.toList.reverse.toArray := by
  congr 1
  have e : ((List.range xs.size).filterMap fun (k : Nat) => xs[(((xs.size : Nat) : Int) - 1 + (k : Int) * (-1)).toNat]?) = (List.range xs.size).filterMap fun k => xs.toList.reverse[k]? := by
    have gen : ∀ (l : List Nat) (f g : Nat → Option Value), (∀ k ∈ l, f k = g k) → l.filterMap f = l.filterMap g := by
      intro l f g
      induction l with
      | nil => intro _; rfl
      | cons a r ih =>
        intro h
        rw [List.filterMap_cons, List.filterMap_cons, h a List.mem_cons_self, ih fun k hk => h k (List.mem_cons_of_mem _ hk)]
    refine gen _ _ _ fun k hk => ?_
    have hk' := List.mem_range.mp hk
    rw [List.getElem?_reverse (by simpa using hk'), Array.length_toList, Array.getElem?_toList]
    congr 1
    omega
  rw [e]
  apply List.ext_getElem?
  intro i
  have key : ∀ (l : List Value) (n : Nat), n = l.length → (List.range n).filterMap (fun k => l[k]?) = l := by
    intro l
    induction l with
    | nil => intro n h; subst h; rfl
    | cons a r ih =>
      intro n h
      subst h
      rw [List.length_cons, List.range_succ_eq_map, List.filterMap_cons]
      simp only [List.getElem?_cons_zero, List.filterMap_map]
      congr 1
      exact ih _ rfl
  rw [key _ _ (by simp)]
theorem sw_getItem_rev {t sl : Addr} {items : Array Value} {vl vu vs : Value} {Q : Value → Shared → Prop} (ht : IsTup s.heap t items) (hs : s.heap.IsSliceOf sl vl vu vs) (pl : IsPart vl none) (pu : IsPart vu none) (ps : IsPart vs (some (-1)))
    (hz : items.size ≤ sizeLine) (h : Q (.ref s.heap.objs.size) { s with heap := s.heap.push { cls := .type "tuple", data := .seq items.toList.reverse.toArray } }) : wpAny (model prog w) A (getItem (.ref t) (.ref sl)) Q E s := by
  obtain ⟨os, hos, hcs, hds⟩ := id hs
  have hTs : s.TypeIs (.ref sl) "slice" := ⟨os, hos, hcs⟩
  unfold getItem
  try with_reducible refine wpAny_holding ?_
  first | refine wpAny_bind (wpAny_pure ?_) | skip
  refine wpAny_bind (wpAny_sequenceKey ht.typeIs (by decide) ?_)
  refine wpAny_bind (wpAny_callSpecial?_slot (name := Str.ofString "__getitem__") ht.typeIs PyProof.Rows.slot_tuple_getitem
    (wpAny_call_entry PyProof.Rows.slot_tuple_getitem ht.typeIs entry_tuple_getitem ?_ (args_tuple_getitem _ _)))
  show wpAny _ _ (Builtin.Tuple.tupleItemsOf (.ref t) >>= _) _ _ s
  refine wpAny_bind (tupleItemsOf_ ht ?_)
  refine wpAny_bind (wpAny_typeOf hTs ?_)
  rw [if_pos (by decide)]
  refine wpAny_bind ?_
  unfold Builtin.Slice.sliceApplied Builtin.Slice.sliceFields
  refine wpAny_bind (wpAny_bind (wpAny_field hos hds (x := vl) rfl (wpAny_bind (wpAny_field hos hds (x := vu) rfl (wpAny_bind (wpAny_field hos hds (x := vs) rfl (wpAny_pure ?_)))))))
  refine wpAny_bind (slicePart_ ps ?_)
  show wpAny _ _ (if ((-1 : Int) == 0) = true then _ else _) _ _ s
  rw [if_neg (by decide)]
  refine wpAny_bind (slicePart_ pl (wpAny_bind (slicePart_ pu (wpAny_bind (wpAny_pure ?_)))))
  show wpAny _ _ (match Builtin.Slice.sliceAdjust none none (-1) (items.size : Int) with | (lo, hi) => pure (lo, (-1 : Int), Builtin.Slice.slicePlaces lo hi (-1))) _ _ s
  have e1 : Builtin.Slice.sliceAdjust none none (-1) (items.size : Int) = ((items.size : Int) - 1, -1) := by
    unfold Builtin.Slice.sliceAdjust
    simp
  have e2 : Builtin.Slice.slicePlaces ((items.size : Int) - 1) (-1) (-1) = items.size := by
    unfold Builtin.Slice.slicePlaces
    rw [if_neg (by omega)]
    split
    · simp only [Int.neg_neg, Int.ediv_one]
      omega
    · omega
  rw [e1]
  show wpAny _ _ (pure ((items.size : Int) - 1, (-1 : Int), Builtin.Slice.slicePlaces ((items.size : Int) - 1) (-1) (-1))) _ _ s
  rw [e2]
  refine wpAny_pure ?_
  show wpAny _ _ (if (((items.size : Int) - 1 == 0) && ((-1 : Int) == 1) && (items.size == items.size)) = true then _ else _) _ _ s
  rw [if_neg (by simp)]
  first
    | refine wpAny_bind (wpAny_pure ?_)
    | skip
  rw [sw_rev_pick]
  unfold Builtin.Tuple.tupleExact
  exact wpAny_bind (wpAny_newObj_type (wpAny_pure ⟨_, rfl, wpAny_pure h⟩) (by show items.toList.reverse.toArray.size ≤ sizeLine; rw [List.size_toArray, List.length_reverse, Array.length_toList]; exact hz))
end
/-- t[::-1] -/
def tRevT (te : TE) : TE := fun σ H Q => te σ H fun x H1 => ∃ a xs, x = .ref a ∧ H1 a = some (.tup xs) ∧ ∀ p, H1 p = none → Q (.ref p) (upd H1 p (.tup xs.reverse))
theorem pe_revT {X : Cx} {e : Expr} {te : TE} {k : Nat} {p1 p2 p3 pos : Pos} (he : PE X e te) : PE X (.Subscript e (.Slice none none (some (.UnaryOp .USub (.Constant (.int 1) k p1) p2)) p3) pos) (tRevT te) := by
  refine ⟨fun pins s σ H Q I h => ?_⟩
  refine Subscript_ (thn (he.run pins s σ H _ I h) fun v s1 ⟨x, H1, I1, r1, q1⟩ => ?_)
  obtain ⟨a, xs, ex, hx, q⟩ := q1
  subst ex
  cases r1
  have hst : PO X (some (.UnaryOp .USub (.Constant (.int 1) k p1) p2)) (tPart (tUn (rU fun i => .int (-i)) (tC (.int 1)))) := po_some (pe_un un_neg pe_int)
  refine wpAny_Slice (thn (po_none.run pins s1 σ H1 (fun o H2 => o = none ∧ H2 = H1) I1 ⟨rfl, rfl⟩) fun vl s2 ⟨l, H2, I2, pl, el, e2⟩ => ?_)
  subst el e2
  refine thn (po_none.run pins s2 σ H2 (fun o H3 => o = none ∧ H3 = H2) I2 ⟨rfl, rfl⟩) fun vu s3 ⟨u, H3, I3, pu, eu, e3⟩ => ?_
  subst eu e3
  refine thn (hst.run pins s3 σ H3 (fun o H4 => o = some (-1) ∧ H4 = H3) I3 ⟨1, rfl, -1, rfl, rfl, rfl⟩) fun vs s4 ⟨o, H4, I4, ps, eo, e4⟩ => ?_
  subst eo e4
  have I5 : Inv X pins σ H4 { s4 with heap := s4.heap.push { cls := .type "slice", data := .fields #[vl, vu, vs] } } := I4.kept (t' := s4.toks) fun b ob q => Heap.get?_push_of_some _ q
  obtain ⟨its, r, ht, hz⟩ := I5.tuple (.inl (.inl hx))
  have hlen := r.length
  show wpAny (model X.prog X.w) X.A (subscriptTail e (.Slice none none (some (.UnaryOp .USub (.Constant (.int 1) k p1) p2)) p3) (.ref a) (.ref s4.heap.objs.size)) (EP X pins σ Q) X.xe { s4 with heap := s4.heap.push { cls := .type "slice", data := .fields #[vl, vu, vs] } }
  refine tail_any (ops := [.ref a, .ref s4.heap.objs.size]) ht.typeIs PyProof.Rows.slot_tuple_getitem.lookup ?_ (by with_unfolding_all rfl)
  refine sw_getItem_rev ht (Heap.IsSliceOf.new _ vl vu vs) pl pu ps (by rw [List.size_toArray]; omega) ?_
  refine ⟨.ref _, _, I5.laid (t' := s4.toks) (o := .tup xs.reverse) (fun b ob q => Heap.get?_push_of_some _ q) (Nat.le_refl _) ?_, rfl, q _ (I5.hok.fresh (Nat.le_refl _))⟩
  exact ⟨by rw [List.length_reverse]; exact hz, _, r.reverse, IsTup.new _ _⟩
/-! ### t.index(k), ints -/
theorem flat_ints (ys : List Int) : (ys.map V.int).all flatV = true := by
  rw [List.all_map]
  exact List.all_eq_true.mpr fun _ _ => rfl
theorem mt_tupI {X : Cx} : MtR X "tuple.index" (fun x xs H Q => ∃ p, ∃ ys : List Int, ∃ z j, x = .ref p ∧ xs = [.int z] ∧ Rd H p (.tup (ys.map V.int)) ∧ ys[j]? = some z ∧ (∀ m, m < j → ys[m]? ≠ some z) ∧ Q (.int (j : Nat)) H) := by
  intro pins s σ H x xs v us Q I rx rs h
  obtain ⟨p, ys, z, j, rfl, rfl, hq, hy, hno, q⟩ := h
  cases rx
  obtain ⟨u, rfl, t, rfl⟩ := vals1 rs
  obtain ⟨its, r, pl, hz⟩ := I.tuple (.inl hq)
  obtain ⟨⟨cls, dd, dt, sl⟩, ho, hc, n, hd⟩ := pl
  simp only at hc hd
  subst hc
  subst hd
  have hl : its.toArray.size = ys.length := by rw [List.size_toArray, ← r.length, List.length_map]
  have hj : j < its.toArray.size := by rw [hl]; exact (List.getElem?_eq_some_iff.mp hy).1
  have at' : ∀ (m : Nat) (hm : m < its.toArray.size), ∃ y t', ys[m]? = some y ∧ its.toArray[m] = Value.int y t' := fun m hm => by
    have hm' : m < ys.length := by rw [← hl]; exact hm
    obtain ⟨w, hw, t', hw'⟩ := r.get (i := m) (x := .int ys[m]) (by simp [hm'])
    refine ⟨ys[m], t', List.getElem?_eq_getElem hm', ?_⟩
    have e := (List.getElem?_eq_some_iff.mp hw).2
    rw [← hw', ← e]
    simp
  refine call_meets PySem.F.slot_tuple_index ⟨_, ho, rfl⟩ PySem.F.entry_tuple_index (PySem.F.args_tuple_index_2 _ _) (TI.tuple_indexAt p its.toArray n dd sl (.int z t) (eqU (.int z)) j hj ?_ ?_)
    ⟨ho, fun w hw => mem_eqAt (x := .int z) ⟨t, rfl⟩ rfl r (flat_ints ys) w (by simpa using hw), ⟨.int (j : Nat), H, I.tok _, ⟨_, rfl⟩, q⟩⟩
  · obtain ⟨y, t', h1, h2⟩ := at' j hj
    rw [hy] at h1
    cases h1
    rw [h2]
    show (z == z) = true
    exact beq_self_eq_true z
  · intro m hm hmj
    obtain ⟨y, t', h1, h2⟩ := at' m hm
    rw [h2]
    show (y == z) = false
    exact beq_eq_false_iff_ne.mpr fun e => hno m hmj (e ▸ h1)
/-! ### (x, ..) * k for any k from 1 on -/
theorem sw_tuple_mul1 (l : Addr) (items : Array Value) (n : Nat) (dd : Option Addr) (sl : Array (Option Value)) (u : Tok) :
    Meets (Builtin.«tuple.__mul__» ⟨[.ref l, .int 1 u], []⟩) (fun _ R s => s.heap.get? l = some { cls := .type "tuple", dict := dd, data := .seq items n, slots := sl } ∧ R (.ok (.ret (Value.ref l))) s) :=
  .of_wp fun prog w A R s h => by
    obtain ⟨hp, g, d, tk, os⟩ := s
    obtain ⟨hl, h⟩ := h
    have f1 := AutoSeq1.idx_int
    wp_walk using AutoSeq1.wpAny_loadPart' hl
    exact ⟨_, rfl, h⟩
def rRep1 (K : PySem.W.Frag) : R2 := fun x y H Q => ∃ l k xs, x = .ref l ∧ y = .int k ∧ SqT K H l xs ∧ xs ≠ [] ∧ 1 ≤ k ∧ k ≤ 1000 ∧ xs.length ≤ 1000 ∧ (k = 1 → Q (.ref l) H) ∧ (2 ≤ k → ∀ p, H p = none → Q (.ref p) (upd H p (.tup (List.replicate k.toNat xs).flatten)))
theorem op_rep1 {X : Cx} : OpR X (binaryOp .Mult) (rRep1 X.K) := by
  intro pins s σ H x y v u Q I rx ry h
  obtain ⟨l, k, xs, rfl, rfl, hT, hne, h1, h2, hz, q1, q⟩ := h
  by_cases hk : 2 ≤ k
  · exact op_repT pins s σ H _ _ v u Q I rx ry ⟨l, k, xs, rfl, rfl, hT, hne, hk, h2, hz, q hk⟩
  · obtain rfl : k = 1 := by omega
    cases rx
    obtain ⟨t, rfl⟩ := ry
    obtain ⟨its, r, ⟨⟨cls, dd, data, sl⟩, ho, hc, n, hd⟩, hs⟩ := I.tuple hT
    simp only at hc hd
    subst hc hd
    exact wpAny_binaryOp_repeat_ref (T := "tuple") (U := "int") (by decide) ⟨_, ho, rfl⟩ (fun s' => typeIs_int s' 1 t) noFill_tuple_mul F.fills_int_mul F.slot_int_rmul repeat_tuple F.slot_int_index.lookup
      (call_meets F.slot_int_rmul (typeIs_int s 1 t) F.entry_int_rmul (F.args_int_rmul_2 _ _) (int_rmul_tuple 1 t l its.toArray n dd sl)
        ⟨ho, rfl, ⟨_, ho, rfl⟩, call_meets F.slot_tuple_mul ⟨_, ho, rfl⟩ F.entry_tuple_mul (F.args_tuple_mul_2 _ _) (sw_tuple_mul1 l its.toArray n dd sl t) ⟨ho, ⟨.ref l, H, I, rfl, q1 rfl⟩⟩⟩)
/-! ### o.f as a target -/
def gFld (K : PySem.W.Frag) (f : Str) (to : TE) : TG := fun v σ H Q => to σ H fun x H2 => ∃ a C dx fs, x = .ref a ∧ H2 a = some (.ins C dx fs) ∧ Cls K C ∧ NoAttr K C f ∧ fs.length < 1000 ∧ Q σ (upd H2 a (.ins C dx (putF f v fs)))
theorem pg_fld {X : Cx} {o : Expr} {f : Str} {to : TE} {pos : Pos} (ho : PE X o to) : PG X (.Attribute o f pos) (gFld X.K f to) := by
  refine ⟨fun pins s σ H v u Q I r h => ?_⟩
  rw [arm_assign_Attribute]
  refine wpAny_bind (wpAny_holding (thn (ho.run pins s σ H _ I h) fun ov s1 ⟨x, H1, I1, rx, a, C, dx, fs, ex, ea, c, n, l, q2⟩ => ?_))
  subst ex
  obtain rfl : ov = Value.ref a := rx
  refine wpAny_bind (wpAny_standAt (wpAny_bind (wpAny_holding (setattr_ok I1 ea c n l r fun s3 I3 => ?_))))
  exact wpAny_release ⟨σ, _, I3, q2⟩
end L2
set_option maxHeartbeats 4000000
/-! Swaprow: what stands in the heap; frames -/
namespace Sw
open PySem L2
/-! ### pairs of lists -/
theorem pd_len {α β : Type} {F : α → β → Prop} : ∀ {l : List α} {m : List β}, Paired F l m → l.length = m.length
  | _, _, .nil => rfl
  | _, _, .cons _ h => congrArg (· + 1) (pd_len h)
theorem pd_app {α β : Type} {F : α → β → Prop} : ∀ {l l' : List α} {m m' : List β}, Paired F l m → Paired F l' m' → Paired F (l ++ l') (m ++ m')
  | _, _, _, _, .nil, h => h
  | _, _, _, _, .cons a h, h' => .cons a (pd_app h h')
theorem pd_get {α β : Type} {F : α → β → Prop} : ∀ {l : List α} {m : List β} {i : Nat} {b : β}, Paired F l m → m[i]? = some b → ∃ a, l[i]? = some a ∧ F a b
  | _, _, i, b, .nil, h => by cases i <;> cases h
  | a :: l, b' :: m, 0, b, .cons f _, h => ⟨a, rfl, by rw [← Option.some.inj h]; exact f⟩
  | a :: l, b' :: m, i + 1, b, .cons _ p, h => pd_get (i := i) p h
theorem pd_get' {α β : Type} {F : α → β → Prop} : ∀ {l : List α} {m : List β} {i : Nat} {a : α}, Paired F l m → l[i]? = some a → ∃ b, m[i]? = some b ∧ F a b
  | _, _, i, b, .nil, h => by cases i <;> cases h
  | a' :: l, b' :: m, 0, a, .cons f _, h => ⟨b', rfl, by rw [← Option.some.inj h]; exact f⟩
  | a' :: l, b' :: m, i + 1, a, .cons _ p, h => pd_get' (i := i) p h
theorem pd_take {α β : Type} {F : α → β → Prop} : ∀ {l : List α} {m : List β} (k : Nat), Paired F l m → Paired F (l.take k) (m.take k)
  | _, _, 0, h => .nil
  | _, _, k + 1, .nil => .nil
  | _, _, k + 1, .cons a h => .cons a (pd_take k h)
theorem pd_drop {α β : Type} {F : α → β → Prop} : ∀ {l : List α} {m : List β} (k : Nat), Paired F l m → Paired F (l.drop k) (m.drop k)
  | _, _, 0, h => h
  | _, _, k + 1, .nil => .nil
  | _, _, k + 1, .cons a h => pd_drop k h
theorem pd_dropLast {α β : Type} {F : α → β → Prop} {l : List α} {m : List β} (h : Paired F l m) : Paired F l.dropLast m.dropLast := by
  rw [List.dropLast_eq_take, List.dropLast_eq_take, pd_len h]
  exact pd_take _ h
theorem pd_last {α β : Type} {F : α → β → Prop} {l : List α} {m : List β} {b : β} (h : Paired F l m) (hb : m.getLast? = some b) : ∃ a, l[l.length - 1]? = some a ∧ F a b := by
  rw [List.getLast?_eq_getElem?] at hb
  rw [pd_len h]
  exact pd_get h hb
/-! ### immutable data -/
def TI (H : Hp) (a : Addr) (ns : List Int) : Prop := H a = some (.tup (ns.map V.int))
/-- a ranking's tuple: its object is known, with no dict -/
def TF (H : Hp) (a : Addr) (ns : List Int) : Prop := ∃ o : Obj, H a = some (.frz o (.tup (ns.map V.int))) ∧ o.dict = none
theorem TF.rd {H : Hp} {a : Addr} {ns : List Int} (h : TF H a ns) : Rd H a (.tup (ns.map V.int)) := let ⟨o, e, _⟩ := h; .inr ⟨o, e⟩
theorem TF.sq {K : PySem.W.Frag} {H : Hp} {a : Addr} {ns : List Int} (h : TF H a ns) : SqT K H a (ns.map V.int) := .inl h.rd
def TIv (H : Hp) (v : V) (ns : List Int) : Prop := ∃ a, v = .ref a ∧ TF H a ns
def TT (H : Hp) (a : Addr) (R : List (List Int)) : Prop := ∃ ps : List V, H a = some (.tup ps) ∧ Paired (TIv H) ps R
/-- a deed's tuple -/
def DAt (H : Hp) (v : V) : Deed → Prop
  | .swap p => ∃ t, v = .ref t ∧ H t = some (.tup [.str "swap", .int p])
  | .rerank w ns => ∃ t b, v = .ref t ∧ H t = some (.tup [.str "rerank", .int w, .ref b]) ∧ TF H b ns
/-- a state's pair -/
def SAt (H : Hp) (v : V) (ra : RA) : Prop := ∃ t r a, v = .ref t ∧ H t = some (.tup [.ref r, .ref a]) ∧ TT H r ra.1 ∧ TI H a ra.2
/-! ### frames -/
/-- what may be written -/
def Pl : Option HO → Prop
  | none => True
  | some (.lst _) => True
  | some (.dK _) => True
  | some (.ins _ _ _) => True
  | _ => False
structure FrmT (TP : List (Addr × Str) → Prop) (fs : List Addr) (H H' : Hp) : Prop where
  kp : ∀ b o, H b = some o → b ∉ fs → (∀ ps, o ≠ .tbl ps) → H' b = some o
  tp : ∀ b xs, H b = some (.tup xs) → H' b = some (.tup xs)
  tf : ∀ b o u, H b = some (.frz o u) → H' b = some (.frz o u)
  tk0 : TP [] → ∀ b, H' b = none → H b = none
  tb : ∀ T, TP T → LamX.Tabs T H → LamX.Tabs T H'
abbrev Frm (fs : List Addr) (H H' : Hp) : Prop := FrmT (fun _ => True) fs H H'
section
variable {TP : List (Addr × Str) → Prop} {fs gs : List Addr} {H H1 H2 : Hp} {p : Addr} {o : HO}
theorem FrmT.refl (H : Hp) : FrmT TP fs H H := ⟨fun _ _ h _ _ => h, fun _ _ h => h, fun _ _ _ h => h, fun _ _ h => h, fun _ _ h => h⟩
theorem FrmT.any (f : Frm fs H H1) : FrmT TP fs H H1 := ⟨f.kp, f.tp, f.tf, fun _ => f.tk0 True.intro, fun T _ h => f.tb T True.intro h⟩
theorem FrmT.tk (f : Frm fs H H1) (b : Addr) (h : H1 b = none) : H b = none := f.tk0 True.intro b h
theorem FrmT.lst (f : FrmT TP fs H H1) {a : Addr} {xs : List V} (h : H a = some (.lst xs)) (ha : a ∉ fs) : H1 a = some (.lst xs) := f.kp _ _ h ha (fun _ z => nomatch z)
theorem FrmT.dk (f : FrmT TP fs H H1) {a : Addr} {xs : List (Key × V)} (h : H a = some (.dK xs)) (ha : a ∉ fs) : H1 a = some (.dK xs) := f.kp _ _ h ha (fun _ z => nomatch z)
theorem FrmT.ins (f : FrmT TP fs H H1) {a C dx : Addr} {xs : List (Str × V)} (h : H a = some (.ins C dx xs)) (ha : a ∉ fs) : H1 a = some (.ins C dx xs) := f.kp _ _ h ha (fun _ z => nomatch z)
theorem FrmT.there (f : Frm fs H H1) {a : Addr} (h : H a ≠ none) : H1 a ≠ none := fun z => h (f.tk a z)
theorem FrmT.trans (f : FrmT TP fs H H1) (g : FrmT TP gs H1 H2) (h : ∀ z ∈ gs, z ∈ fs ∨ H z = none) : FrmT TP fs H H2 :=
  ⟨fun b o e hb ht => g.kp b o (f.kp b o e hb ht) (fun z => (h b z).elim hb fun n => by rw [n] at e; cases e) ht, fun b xs e => g.tp b xs (f.tp b xs e), fun b o u e => g.tf b o u (f.tf b o u e), fun t b n => f.tk0 t b (g.tk0 t b n), fun T q t => g.tb T q (f.tb T q t)⟩
theorem FrmT.tr (f : FrmT TP fs H H1) (g : FrmT TP fs H1 H2) : FrmT TP fs H H2 := f.trans g fun _ z => .inl z
theorem FrmT.tr0 (f : FrmT TP fs H H1) (g : FrmT TP [] H1 H2) : FrmT TP fs H H2 := f.trans g fun _ z => nomatch z
theorem FrmT.mono (f : FrmT TP fs H H1) (h : ∀ z ∈ fs, z ∈ gs) : FrmT TP gs H H1 := ⟨fun b o e hb ht => f.kp b o e (fun z => hb (h b z)) ht, f.tp, f.tf, f.tk0, f.tb⟩
theorem FrmT.mono0 (f : FrmT TP [] H H1) : FrmT TP gs H H1 := f.mono fun _ z => nomatch z
theorem pl_tup {H : Hp} {p b : Addr} {xs : List V} (h : Pl (H p)) (e : H b = some (.tup xs)) : b ≠ p := fun z => by rw [← z, e] at h; exact h
theorem pl_frz {H : Hp} {p b : Addr} {oo : Obj} {u : HO} (h : Pl (H p)) (e : H b = some (.frz oo u)) : b ≠ p := fun z => by rw [← z, e] at h; exact h
theorem pl_tbl {H : Hp} {p b : Addr} {xs : Array Value} (h : Pl (H p)) (e : H b = some (.tbl xs)) : b ≠ p := fun z => by rw [← z, e] at h; exact h
theorem pl_ext {H : Hp} {p b : Addr} {q : Str} (h : Pl (H p)) (e : H b = some (LamX.CodeO b q)) : b ≠ p := fun z => by rw [← z, e] at h; exact h
theorem tabs_put {T : List (Addr × Str)} (t : LamX.Tabs T H) (h : Pl (H p)) : LamX.Tabs T (upd H p o) := fun z hz => by
  obtain ⟨ps, h1, h2, h3⟩ := t z hz
  refine ⟨ps, by rw [upd_ne (pl_tbl h h1)]; exact h1, h2, fun pos cv hc => ?_⟩
  obtain ⟨c, e1, e2⟩ := h3 pos cv hc
  exact ⟨c, e1, by rw [upd_ne (pl_ext h e2)]; exact e2⟩
/-- one thing written that is new since H, or in fs -/
theorem FrmT.put (f : FrmT TP fs H H1) (hp : H p = none ∨ p ∈ fs) (h : Pl (H1 p)) : FrmT TP fs H (upd H1 p o) :=
  ⟨fun b u e hb ht => by
    have n : b ≠ p := fun z => hp.elim (fun n => by rw [← z, e] at n; cases n) fun m => hb (z ▸ m)
    rw [upd_ne n]; exact f.kp b u e hb ht, fun b xs e => by
    have e1 := f.tp b xs e
    rw [upd_ne (pl_tup h e1)]; exact e1, fun b oo u e => by
    have e1 := f.tf b oo u e
    rw [upd_ne (pl_frz h e1)]; exact e1, fun t b n => by
    by_cases z : b = p
    · rw [z, upd_same] at n; cases n
    · rw [upd_ne z] at n; exact f.tk0 t b n, fun T q t => tabs_put (f.tb T q t) h⟩
theorem FrmT.new (f : Frm fs H H1) (hp : H1 p = none) : Frm fs H (upd H1 p o) := f.put (.inl (f.tk p hp)) (by rw [hp]; exact True.intro)
theorem pl_lst {H : Hp} {p : Addr} {xs : List V} (h : H p = some (.lst xs)) : Pl (H p) := by rw [h]; exact True.intro
theorem pl_dk {H : Hp} {p : Addr} {xs : List (Key × V)} (h : H p = some (.dK xs)) : Pl (H p) := by rw [h]; exact True.intro
theorem pl_ins {H : Hp} {p C dx : Addr} {xs : List (Str × V)} (h : H p = some (.ins C dx xs)) : Pl (H p) := by rw [h]; exact True.intro
theorem frm_new (hp : H p = none) : FrmT TP fs H (upd H p o) := (FrmT.refl H).put (.inl hp) (by rw [hp]; exact True.intro)
/-- behind the making of an instance -/
theorem frm_made {x dx C : Addr} (nx : H x = none) (nd : H dx = none) (ne : dx ≠ x) : FrmT TP fs H (upd (upd H dx (.own x)) x (.ins C dx [])) := (frm_new nd).put (.inl nx) (by rw [upd_ne (Ne.symm ne), nx]; exact True.intro)
theorem TI.frm {a : Addr} {ns : List Int} (h : TI H a ns) (f : FrmT TP fs H H1) : TI H1 a ns := f.tp _ _ h
theorem TF.frm {a : Addr} {ns : List Int} (h : TF H a ns) (f : FrmT TP fs H H1) : TF H1 a ns := let ⟨o, e, d⟩ := h; ⟨o, f.tf _ _ _ e, d⟩
theorem TIv.frm {a : V} {ns : List Int} (h : TIv H a ns) (f : FrmT TP fs H H1) : TIv H1 a ns := let ⟨a, e, h⟩ := h; ⟨a, e, h.frm f⟩
theorem TT.frm {a : Addr} {R : List (List Int)} (h : TT H a R) (f : FrmT TP fs H H1) : TT H1 a R := let ⟨ps, e, h⟩ := h; ⟨ps, f.tp _ _ e, Paired.mapP h fun _ _ z => z.frm f⟩
theorem DAt.frm {v : V} {d : Deed} (h : DAt H v d) (f : FrmT TP fs H H1) : DAt H1 v d := by
  cases d with
  | swap p =>
    obtain ⟨t, e, h⟩ := h
    exact ⟨t, e, f.tp _ _ h⟩
  | rerank w ns =>
    obtain ⟨t, b, e, h, k⟩ := h
    exact ⟨t, b, e, f.tp _ _ h, k.frm f⟩
theorem SAt.frm {v : V} {d : RA} (h : SAt H v d) (f : FrmT TP fs H H1) : SAt H1 v d := by
  obtain ⟨t, r, a, e, h, k, l⟩ := h
  exact ⟨t, r, a, e, f.tp _ _ h, k.frm f, l.frm f⟩
theorem pdD {vs : List V} {ds : List Deed} (h : Paired (DAt H) vs ds) (f : FrmT TP fs H H1) : Paired (DAt H1) vs ds := Paired.mapP h fun _ _ z => z.frm f
theorem pdS {vs : List V} {ds : List RA} (h : Paired (SAt H) vs ds) (f : FrmT TP fs H H1) : Paired (SAt H1) vs ds := Paired.mapP h fun _ _ z => z.frm f
theorem TT.len {a : Addr} {R : List (List Int)} {ps : List V} (h : TT H a R) (e : H a = some (.tup ps)) : ps.length = R.length := by
  obtain ⟨qs, e2, p⟩ := h
  rw [e2] at e
  have e3 := Option.some.inj e
  injection e3 with e4
  rw [← e4]
  exact pd_len p
end
/-! ### the draws' state -/
structure Mm where
  dm : Addr
  cl : Addr
  g : Addr
structure MAt (H : Hp) (M : Mm) (bd : Nat) : Prop where
  dm : ∃ n : Nat, n ≤ bd ∧ H M.dm = some (.dK [(Sum.inr "cells", .ref M.cl), (Sum.inr "great", .ref M.g), (Sum.inr "spot", .int n)])
  cl : ∃ cs : List Int, H M.cl = some (.lst (cs.map V.int)) ∧ cs.length = 64 ∧ ∀ c ∈ cs, 0 ≤ c ∧ c < 2147483648
  g : ∃ gs : List Int, H M.g = some (.lst (gs.map V.int)) ∧ gs.length ≤ 63
  ne : M.cl ≠ M.g
theorem MAt.mono {H : Hp} {M : Mm} {a b : Nat} (m : MAt H M a) (h : a ≤ b) : MAt H M b := ⟨let ⟨n, hn, e⟩ := m.dm; ⟨n, Nat.le_trans hn h, e⟩, m.cl, m.g, m.ne⟩
/-- what a draw writes -/
abbrev Mm.fs (M : Mm) : List Addr := [M.dm, M.g]
theorem MAt.frm {TP : List (Addr × Str) → Prop} {fs : List Addr} {H H1 : Hp} {M : Mm} {bd : Nat} (m : MAt H M bd) (f : FrmT TP fs H H1) (h1 : M.dm ∉ fs) (h2 : M.cl ∉ fs) (h3 : M.g ∉ fs) : MAt H1 M bd :=
  ⟨let ⟨n, hn, e⟩ := m.dm; ⟨n, hn, f.dk e h1⟩, let ⟨cs, e, r⟩ := m.cl; ⟨cs, f.lst e h2, r⟩, let ⟨gs, e, r⟩ := m.g; ⟨gs, f.lst e h3, r⟩, m.ne⟩
theorem MAt.frm0 {TP : List (Addr × Str) → Prop} {H H1 : Hp} {M : Mm} {bd : Nat} (m : MAt H M bd) (f : FrmT TP [] H H1) : MAt H1 M bd := m.frm f (fun z => nomatch z) (fun z => nomatch z) (fun z => nomatch z)
/-! ### a live row -/
def flds (r a c s : Addr) : List (Str × V) := [("own_rankings", .ref r), ("own_arrangement", .ref a), ("changes", .ref c), ("states", .ref s)]
structure BoxAt (C : Addr) (H : Hp) (b c s : Addr) (x : Box) : Prop where
  ob : ∃ dx r a, H b = some (.ins C dx (flds r a c s)) ∧ TT H r x.R ∧ TI H a x.A
  ch : ∃ cs, H c = some (.lst cs) ∧ Paired (DAt H) cs x.deeds
  st : ∃ ss, H s = some (.lst ss) ∧ Paired (SAt H) ss x.past
  ne : c ≠ s
theorem BoxAt.frm {TP : List (Addr × Str) → Prop} {fs : List Addr} {H H1 : Hp} {C b c s : Addr} {x : Box} (m : BoxAt C H b c s x) (f : FrmT TP fs H H1) (h1 : b ∉ fs) (h2 : c ∉ fs) (h3 : s ∉ fs) : BoxAt C H1 b c s x :=
  ⟨let ⟨dx, r, a, e, t, u⟩ := m.ob; ⟨dx, r, a, f.ins e h1, t.frm f, u.frm f⟩, let ⟨cs, e, p⟩ := m.ch; ⟨cs, f.lst e h2, pdD p f⟩, let ⟨ss, e, p⟩ := m.st; ⟨ss, f.lst e h3, pdS p f⟩, m.ne⟩
theorem BoxAt.frm0 {TP : List (Addr × Str) → Prop} {H H1 : Hp} {C b c s : Addr} {x : Box} (m : BoxAt C H b c s x) (f : FrmT TP [] H H1) : BoxAt C H1 b c s x := m.frm f (fun z => nomatch z) (fun z => nomatch z) (fun z => nomatch z)
theorem BoxAt.tr {C : Addr} {H : Hp} {b c s : Addr} {x : Box} (m : BoxAt C H b c s x) : H b ≠ none ∧ H c ≠ none ∧ H s ≠ none := by
  obtain ⟨_, _, _, e, _⟩ := m.ob
  obtain ⟨_, e2, _⟩ := m.ch
  obtain ⟨_, e3, _⟩ := m.st
  rw [e, e2, e3]
  simp
/-! ### the law's record -/
structure KeptAt (av : List Addr) (H : Hp) (k : Addr) (x : Box) : Prop where
  ob : ∃ r a p d, H k = some (.dK [(Sum.inr "lists", .ref r), (Sum.inr "row", .ref a), (Sum.inr "past", .ref p), (Sum.inr "deeds", .ref d)]) ∧ TT H r x.R ∧ TI H a x.A ∧ p ∉ av ∧ d ∉ av ∧
    (∃ ss, H p = some (.lst ss) ∧ Paired (SAt H) ss x.past) ∧ ∃ cs, H d = some (.lst cs) ∧ Paired (DAt H) cs x.deeds
  nk : k ∉ av
theorem KeptAt.frm {TP : List (Addr × Str) → Prop} {fs av : List Addr} {H H1 : Hp} {k : Addr} {x : Box} (m : KeptAt av H k x) (f : FrmT TP fs H H1) (h : ∀ z ∈ fs, z ∈ av) : KeptAt av H1 k x :=
  ⟨let ⟨r, a, p, d, e, t, u, np, nd, ⟨ss, e1, p1⟩, ⟨cs, e2, p2⟩⟩ := m.ob; ⟨r, a, p, d, f.dk e (fun z => m.nk (h _ z)), t.frm f, u.frm f, np, nd, ⟨ss, f.lst e1 (fun z => np (h _ z)), pdS p1 f⟩, ⟨cs, f.lst e2 (fun z => nd (h _ z)), pdD p2 f⟩⟩, m.nk⟩
theorem KeptAt.frm0 {TP : List (Addr × Str) → Prop} {av : List Addr} {H H1 : Hp} {k : Addr} {x : Box} (m : KeptAt av H k x) (f : FrmT TP [] H H1) : KeptAt av H1 k x := m.frm f fun _ z => nomatch z
/-! ### the same as plain data -/
def dI (ns : List Int) : PyData := .tuple (ns.map PyData.int)
def dR (R : List (List Int)) : PyData := .tuple (R.map dI)
def dD : Deed → PyData
  | .swap p => .tuple [.str "swap", .int p]
  | .rerank w ns => .tuple [.str "rerank", .int w, dI ns]
def dDs (ds : List Deed) : PyData := .list (ds.map dD)
section
variable {K : PySem.W.Frag} {H : Hp}
theorem dp_ints : ∀ (ns : List Int), DpAll K H (ns.map V.int) (ns.map PyData.int)
  | [] => .nil
  | n :: ns => .cons (.int n) (dp_ints ns)
theorem dp_TI {a : Addr} {ns : List Int} (h : TI H a ns) : Dp K H (.ref a) (dI ns) := .tup (SqT.of h) (dp_ints ns)
theorem dp_TF {a : Addr} {ns : List Int} (h : TF H a ns) : Dp K H (.ref a) (dI ns) := .tup h.sq (dp_ints ns)
theorem dp_all {α : Type} {F : V → α → Prop} {g : α → PyData} (h : ∀ v a, F v a → Dp K H v (g a)) : ∀ {vs : List V} {as : List α}, Paired F vs as → DpAll K H vs (as.map g)
  | _, _, .nil => .nil
  | _, _, .cons a p => .cons (h _ _ a) (dp_all h p)
theorem dp_TIv {v : V} {ns : List Int} (h : TIv H v ns) : Dp K H v (dI ns) := by
  obtain ⟨a, rfl, h⟩ := h
  exact dp_TF h
theorem dp_TT {a : Addr} {R : List (List Int)} (h : TT H a R) : Dp K H (.ref a) (dR R) := by
  obtain ⟨ps, e, p⟩ := h
  exact .tup (SqT.of e) (dp_all (g := dI) (fun _ _ => dp_TIv) p)
theorem dp_DAt {v : V} {d : Deed} (h : DAt H v d) : Dp K H v (dD d) := by
  cases d with
  | swap p =>
    obtain ⟨t, rfl, h⟩ := h
    exact .tup (SqT.of h) (.cons (.str _) (.cons (.int _) .nil))
  | rerank w ns =>
    obtain ⟨t, b, rfl, h, k⟩ := h
    exact .tup (SqT.of h) (.cons (.str _) (.cons (.int _) (.cons (dp_TF k) .nil)))
theorem dp_deeds {a : Addr} {vs : List V} {ds : List Deed} (h : H a = some (.lst vs)) (p : Paired (DAt H) vs ds) : Dp K H (.ref a) (dDs ds) := .lst (SqL.of h) (dp_all (g := dD) (fun _ _ => dp_DAt) p)
end
/-- data that can be compared: laid out, of depth at most k -/
def Sh (k : Nat) (d : PyData) : Prop := d.canLay0 = true ∧ d.depth ≤ k
theorem Sh.shaped {k : Nat} {d : PyData} (h : Sh k d) (hk : k ≤ 64) : SeqAt.shaped d = true := by
  unfold SeqAt.shaped
  rw [Bool.and_eq_true, decide_eq_true_eq]
  exact ⟨h.1, Nat.le_trans h.2 hk⟩
theorem Sh.mono {k j : Nat} {d : PyData} (h : Sh k d) (hk : k ≤ j) : Sh j d := ⟨h.1, Nat.le_trans h.2 hk⟩
theorem sh_int {k : Nat} (i : Int) : Sh (k + 1) (.int i) := ⟨by simp [PyData.canLay0], by simp [PyData.depth]⟩
theorem sh_all {k : Nat} : ∀ {ds : List PyData}, (∀ d ∈ ds, Sh k d) → PyData.canLayAll0 ds = true ∧ PyData.depthAll ds ≤ k
  | [], _ => ⟨by simp [PyData.canLayAll0], by simp [PyData.depthAll]⟩
  | d :: ds, h => by
    have a := h d List.mem_cons_self
    have b := sh_all (k := k) (ds := ds) fun e he => h e (List.mem_cons_of_mem _ he)
    exact ⟨by simp [PyData.canLayAll0, a.1, b.1], by simp only [PyData.depthAll]; exact Nat.max_le.mpr ⟨a.2, b.2⟩⟩
theorem sh_tup {k : Nat} {ds : List PyData} (h : ∀ d ∈ ds, Sh k d) : Sh (k + 1) (.tuple ds) := by
  obtain ⟨a, b⟩ := sh_all h
  exact ⟨by simp [PyData.canLay0, a], by simp [PyData.depth]; omega⟩
theorem sh_lst {k : Nat} {ds : List PyData} (h : ∀ d ∈ ds, Sh k d) : Sh (k + 1) (.list ds) := by
  obtain ⟨a, b⟩ := sh_all h
  exact ⟨by simp [PyData.canLay0, a], by simp [PyData.depth]; omega⟩
theorem sh_dI (ns : List Int) : Sh 3 (dI ns) := sh_tup fun d hd => by
  obtain ⟨i, _, rfl⟩ := List.mem_map.mp hd
  exact (sh_int (k := 1) i)
theorem sh_dR (R : List (List Int)) : Sh 4 (dR R) := sh_tup fun d hd => by
  obtain ⟨i, _, rfl⟩ := List.mem_map.mp hd
  exact sh_dI i
theorem sh_swap {k : Nat} : Sh (k + 1) (.str "swap") := ⟨by decide +kernel, by simp [PyData.depth]⟩
theorem sh_rerank {k : Nat} : Sh (k + 1) (.str "rerank") := ⟨by decide +kernel, by simp [PyData.depth]⟩
theorem sh_dD (d : Deed) : Sh 4 (dD d) := by
  cases d with
  | swap p =>
    refine sh_tup fun d hd => ?_
    rcases List.mem_cons.mp hd with rfl | hd
    · exact sh_swap
    · rw [List.mem_singleton.mp hd]; exact sh_int _
  | rerank w ns =>
    refine sh_tup fun d hd => ?_
    rcases List.mem_cons.mp hd with rfl | hd
    · exact sh_rerank
    · rcases List.mem_cons.mp hd with rfl | hd
      · exact sh_int _
      · rw [List.mem_singleton.mp hd]; exact sh_dI _
theorem sh_dDs (ds : List Deed) : Sh 5 (dDs ds) := sh_lst fun d hd => by
  obtain ⟨i, _, rfl⟩ := List.mem_map.mp hd
  exact sh_dD i
theorem Sh.refl {k : Nat} {d : PyData} (h : Sh k d) : PyData.eqv d d = true := SeqAt.eqv_refl d h.1
theorem eqv_ints : ∀ (a b : List Int), PyData.eqvAll (a.map PyData.int) (b.map PyData.int) = decide (a = b)
  | [], [] => by simp [PyData.eqvAll]
  | [], b :: bs => by simp [PyData.eqvAll]
  | a :: as, [] => by simp [PyData.eqvAll]
  | a :: as, b :: bs => by
    simp only [List.map_cons, PyData.eqvAll, PyData.eqv, eqv_ints as bs, List.cons.injEq]
    rw [Bool.eq_iff_iff]
    simp
theorem eqv_dI (a b : List Int) : PyData.eqv (dI a) (dI b) = decide (a = b) := by
  unfold dI
  simp only [PyData.eqv]
  exact eqv_ints a b
theorem eqv_dRs : ∀ (a b : List (List Int)), PyData.eqvAll (a.map dI) (b.map dI) = decide (a = b)
  | [], [] => by simp [PyData.eqvAll]
  | [], b :: bs => by simp [PyData.eqvAll]
  | a :: as, [] => by simp [PyData.eqvAll]
  | a :: as, b :: bs => by
    simp only [List.map_cons, PyData.eqvAll, eqv_dI, eqv_dRs as bs, List.cons.injEq]
    rw [Bool.eq_iff_iff]
    simp
theorem eqv_dR (a b : List (List Int)) : PyData.eqv (dR a) (dR b) = decide (a = b) := by
  unfold dR
  simp only [PyData.eqv]
  exact eqv_dRs a b
end Sw
set_option maxHeartbeats 4000000
/-! Swaprow: the facts of the text; a def with its promise; the promises -/
namespace L2
open PySem PySem.Spec PyProof.Rows
/-- a def under its global name keeps sp -/
structure Df (P : Program) (w : World) (K : PySem.W.Frag) (mg : Str → Option Value) (base : Heap) (CX : CXT) (k : Nat) (x : Str) (ps : List Str) (sp : Sp) : Prop where
  ex : ∃ (f : Addr) (fd : FuncData), mg x = some (.ref f) ∧ PySem.W.keepIn K (.ref f) = true ∧ Binds K fd ps [] ∧ FnOk P w K mg base CX k f fd ps sp
/-- a method of the class at C -/
structure Dm (P : Program) (w : World) (K : PySem.W.Frag) (mg : Str → Option Value) (base : Heap) (CX : CXT) (k : Nat) (C : Addr) (m : Str) (ps : List Str) (sp : Sp) : Prop where
  ex : ∃ (f : Addr) (fd : FuncData), Meth K C m f ∧ Binds K fd ps [] ∧ FnOk P w K mg base CX k f fd ps sp
structure DefAt (K : PySem.W.Frag) (mg : Str → Option Value) (x : Str) (st : Stmt) : Prop where
  ex : ∃ (f : Addr) (fd : FuncData), FunD K x x (defArgs st) (defBody st) (defScope st) [] [] f fd ∧ mg x = some (.ref f)
structure MethAt (K : PySem.W.Frag) (C : Addr) (m qual : Str) (st : Stmt) : Prop where
  ex : ∃ (f : Addr) (fd : FuncData), FunD K m qual (defArgs st) (defBody st) (defScope st) [] [] f fd ∧ Meth K C m f
section
variable {P : Program} {w : World} {K : PySem.W.Frag} {mg : Str → Option Value} {base : Heap} {CX : CXT} {N ps : List Str} {k : Nat} {sp : Sp} {x m qual : Str} {st : Stmt} {C : Addr}
theorem Df.of (D : DefAt K mg x st) (h : ∀ (kV doc pm : Value) (an : Option Addr) (cdv ct : Value) (us : List Value), us.length = ps.length → bindArgs (PySem.W.fnOf x x (defArgs st) (defBody st) (defScope st) .none kV doc pm an cdv ct) ⟨us, []⟩ = pure (ps.zip us))
    (S : FnScope N ps (defScope st)) (len : ∀ vs H Q E, sp vs H Q E → vs.length = ps.length)
    (hbody : ∀ (f : Addr) (cdv : Value) (A : Around) (outer : List Env) (s : Shared) (H : Hp) (vs : List V) (Q : VK) (E : XK), Room k (A.deeper (envOfC x (defScope st) s.heap.objs.size f cdv)) → sp vs H Q E →
      ∃ t, PSs (cxOf CX P w K mg base N x (defScope st) f cdv A outer s H E) (defBody st) t ∧ t { nx := fun _ H' => Q .non H', rt := Q } (start N vs) H) : Df P w K mg base CX (k + 1) x ps sp := by
  obtain ⟨f, fd, F, g⟩ := D.ex
  exact ⟨f, fd, g, F.kp, F.bindsN h, F.ok S len (hbody f)⟩
theorem Dm.of (D : MethAt K C m qual st) (h : ∀ (kV doc pm : Value) (an : Option Addr) (cdv ct : Value) (us : List Value), us.length = ps.length → bindArgs (PySem.W.fnOf m qual (defArgs st) (defBody st) (defScope st) .none kV doc pm an cdv ct) ⟨us, []⟩ = pure (ps.zip us))
    (S : FnScope N ps (defScope st)) (len : ∀ vs H Q E, sp vs H Q E → vs.length = ps.length)
    (hbody : ∀ (f : Addr) (cdv : Value) (A : Around) (outer : List Env) (s : Shared) (H : Hp) (vs : List V) (Q : VK) (E : XK), Room k (A.deeper (envOfC qual (defScope st) s.heap.objs.size f cdv)) → sp vs H Q E →
      ∃ t, PSs (cxOf CX P w K mg base N qual (defScope st) f cdv A outer s H E) (defBody st) t ∧ t { nx := fun _ H' => Q .non H', rt := Q } (start N vs) H) : Dm P w K mg base CX (k + 1) C m ps sp := by
  obtain ⟨f, fd, F, g⟩ := D.ex
  exact ⟨f, fd, g, F.bindsN h, F.ok S len (hbody f)⟩
end
section
variable {X : Cx} {CX : CXT} {k : Nat} {C : Addr} {ps : List Str} {sp : Sp} {E : XK} {x m : Str} {p pos apos : Pos} {e o : Expr} {es : List Expr} {t : TA} {ta : TE}
theorem pe_df (D : Df X.prog X.w X.K X.mg X.base CX k x ps sp) (hr : Room k X.A) (hx : Passes CX X E) (ha : PA X (e :: es) t) (hg : Gl X x := by rfl) (hdb : (x == ("__debug__" : Str)) = false := by decide)
    (he : starEach (e :: es) X.env = (false, eval e X.env) :: starEach es X.env := by rfl) (hpl : (backTo pos (starEach es X.env)).any (·.1) = false := by rfl) :
    PE X (.Call (.Name x p) (e :: es) [] pos) (tCall sp [] E t) := by
  obtain ⟨f, fd, g, kp, b, F⟩ := D.ex
  exact pe_call F hr hg g kp b .nil hx ha hdb he hpl
/-- what is raised is wished for at the slots -/
theorem pe_dfS {E : St → XK} (D : Df X.prog X.w X.K X.mg X.base CX k x ps sp) (hr : Room k X.A) (hx : ∀ σ, PassesAt CX X σ (E σ)) (ha : PA X (e :: es) t) (hg : Gl X x := by rfl) (hdb : (x == ("__debug__" : Str)) = false := by decide)
    (he : starEach (e :: es) X.env = (false, eval e X.env) :: starEach es X.env := by rfl) (hpl : (backTo pos (starEach es X.env)).any (·.1) = false := by rfl) :
    PE X (.Call (.Name x p) (e :: es) [] pos) (tCallSD sp [] E t) := by
  obtain ⟨f, fd, g, kp, b, F⟩ := D.ex
  exact pe_callSD F hr hg g kp b .nil hx ha hdb he hpl
theorem pe_dm {pl : Sem Bool} (he : PE X o ta) (c : Cls X.K C) (D : Dm X.prog X.w X.K X.mg X.base CX k C m ps sp) (hr : Room k X.A) (hx : Passes CX X E) (ha : PA X (e :: es) t)
    (hst : starEach (e :: es) X.env = (false, eval e X.env) :: starEach es X.env := by rfl) (hpl : (backTo pos (starEach es X.env)).any (·.1) = false := by rfl)
    (ht : eval (.Call (.Attribute o m apos) (e :: es) [] pos) X.env = (do
      let ov ← eval o X.env
      standAt apos.atName
      let (f, first) ← holding [ov] (getMethod ov m pl)
      callWith pos f first (backTo pos (starEach (e :: es) X.env)) (backToKw pos (keywordEach [] X.env))) := by rfl) :
    PE X (.Call (.Attribute o m apos) (e :: es) [] pos) (tMeth C m sp [] E ta t) := by
  obtain ⟨f, fd, g, b, F⟩ := D.ex
  exact pe_meth he c g F hr b .nil hx ha hst hpl ht
theorem pe_dm0 {pl : Sem Bool} (he : PE X o ta) (c : Cls X.K C) (D : Dm X.prog X.w X.K X.mg X.base CX k C m ps sp) (hr : Room k X.A) (hx : Passes CX X E)
    (ht : eval (.Call (.Attribute o m apos) [] [] pos) X.env = (do
      let ov ← eval o X.env
      standAt apos.atName
      let (f, first) ← holding [ov] (getMethod ov m pl)
      callWith pos f first (backTo pos (starEach [] X.env)) (backToKw pos (keywordEach [] X.env))) := by rfl) :
    PE X (.Call (.Attribute o m apos) [] [] pos) (tMeth C m sp [] E ta tNil) := by
  obtain ⟨f, fd, g, b, F⟩ := D.ex
  exact pe_meth0 he c g F hr b .nil hx ht
end
end L2
namespace Sw
open PySem L2
/-! ### the facts of the text -/
structure Ad where
  C : Addr
  SE : Addr
  eR : Addr
  eA : Addr
  eP : Addr
  eI : Addr
  eS : Addr
  eN : Addr
/-- an exception class -/
structure ExK (K : PySem.W.Frag) (C : Addr) (f : Str) : Prop where
  oex : OexC K C
  xf : XfC K C
  exc : ExcC K C
  no : PySem.W.findIn K (.ref C) f = some none
/-- isinstance(instance of C, D) over the six -/
structure Kits (K : PySem.W.Frag) (A : Ad) (C : Addr) (bS bP bI bR bA bN : Bool) : Prop where
  S : PySem.W.kitOne K (.ref C) (.ref A.eS) = some bS
  P : PySem.W.kitOne K (.ref C) (.ref A.eP) = some bP
  I : PySem.W.kitOne K (.ref C) (.ref A.eI) = some bI
  R : PySem.W.kitOne K (.ref C) (.ref A.eR) = some bR
  N : PySem.W.kitOne K (.ref C) (.ref A.eN) = some bN
  Ar : PySem.W.kitOne K (.ref C) (.ref A.eA) = some bA
structure Tx (K : PySem.W.Frag) (mg : Str → Option Value) (A : Ad) : Prop where
  cl : Cls K A.C
  nR : NoAttr K A.C "own_rankings"
  nA : NoAttr K A.C "own_arrangement"
  nC : NoAttr K A.C "changes"
  nS : NoAttr K A.C "states"
  mgC : mg "LiveRow" = some (.ref A.C)
  mgSE : mg "SwaprowError" = some (.ref A.SE)
  mgR : mg "InvalidRankings" = some (.ref A.eR)
  mgA : mg "InvalidArrangement" = some (.ref A.eA)
  mgP : mg "InvalidPerson" = some (.ref A.eP)
  mgI : mg "InvalidItem" = some (.ref A.eI)
  mgS : mg "InvalidSwap" = some (.ref A.eS)
  mgN : mg "NothingToUndo" = some (.ref A.eN)
  isinstance : mg "isinstance" = none
  int : mg "int" = none
  bool : mg "bool" = none
  tuple : mg "tuple" = none
  len : mg "len" = none
  all : mg "all" = none
  set : mg "set" = none
  enumerate : mg "enumerate" = none
  range : mg "range" = none
  list : mg "list" = none
  sorted : mg "sorted" = none
  dict : mg "dict" = none
  maxP : ∃ t, mg "MAX_PEOPLE" = some (.int 40 t)
  exS : ExK K A.eS "value"
  exP : ExK K A.eP "value"
  exR : ExK K A.eR "person"
  exN : ExK K A.eN "value"
  kS : Kits K A A.eS true false false false false false
  kP : Kits K A A.eP false true false false false false
  kR : Kits K A A.eR false false false true false false
  kN : Kits K A A.eN false false false false false true
  mS : PySem.W.exmOne K (.ref A.eS) (.ref A.SE) = some true
  mP : PySem.W.exmOne K (.ref A.eP) (.ref A.SE) = some true
  mR : PySem.W.exmOne K (.ref A.eR) (.ref A.SE) = some true
  mN : PySem.W.exmOne K (.ref A.eN) (.ref A.SE) = some true
  sup : ClX.CRead K A.SE (.type "type")
  cC : PySem.W.findIn K (.ref A.C) "__class__" = some (some (.builtin "object.__class__"))
  cG : PySem.W.specialIn K (.builtin "object.__class__") "__get__" = some (some (.builtin "getset_descriptor.__get__"))
  cT : PySem.W.takesIn K (.builtin "object.__class__") = some true
  cM : PySem.W.mroIn K A.C (.type "object") = some true
  kCC : PySem.W.kitOne K (.ref A.C) (.ref A.C) = some true
  kCN : PySem.W.kitOne K (.type "NoneType") (.ref A.C) = some false
  kCI : PySem.W.kitOne K (.type "int") (.ref A.C) = some false
  kCT : PySem.W.kitOne K (.type "tuple") (.ref A.C) = some false
  supV : PySem.W.findCls K (.ref A.SE) (.type "type") "__init__" = some (.val (.builtin "ValueError.__init__"))
/-! ### kinds of values -/
inductive KindV (H : Hp) : V → Bool → Prop
  | int (z : Int) : KindV H (.int z) true
  | bl (b : Bool) : KindV H (.bl b) false
  | non : KindV H .non false
  | str (x : Str) : KindV H (.str x) false
  | tup {a : Addr} {xs : List V} : H a = some (.tup xs) → KindV H (.ref a) false
  | lst {a : Addr} {xs : List V} : H a = some (.lst xs) → KindV H (.ref a) false
def bel (n : Int) : V → Bool
  | .int z => decide (0 ≤ z) && decide (z < n)
  | _ => false
/-- what is asked to be a ranking of n items; o: it, if it is one -/
inductive RkArg (H : Hp) (n : Nat) : V → Option (List Int) → Prop
  | int {a : Addr} {ns : List Int} : TF H a ns → ns.length ≤ 100 → RkArg H n (.ref a) (if isRk ns n = true then some ns else none)
  | bl {a : Addr} {bs : List Bool} : H a = some (.tup (bs.map V.bl)) → bs ≠ [] → bs.length ≤ 100 → RkArg H n (.ref a) none
  | lst {a : Addr} {xs : List V} : H a = some (.lst xs) → RkArg H n (.ref a) none
  | non : RkArg H n .non none
/-- the tables of ranks -/
def TbAt (H : Hp) (p : Addr) (R : List (List Int)) : Prop := ∃ ds, H p = some (.lst ds) ∧ Paired (fun v ns => ∃ d kvs, v = V.ref d ∧ H d = some (.dK kvs) ∧ ∀ z ∈ ns, valV kvs (Sum.inl z : Key) = some (.int (ixo ns z))) ds R
def alI (n : Nat) (R : List (List Int)) (A : List Int) : List Int := (allowed n R A).map fun i : Nat => (i : Int)
/-! ### changes asked for -/
inductive Req where
  | undo
  | swap (v : V)
  | rerank (v w : V) (o : Option (List Int))
inductive Err where
  | nothing
  | swap (v : V)
  | person (v : V)
  | rankings (v : V)
def errV : Err → List V
  | .nothing => [.str "nothing"]
  | .swap v => [.str "swap", v]
  | .person v => [.str "person", v]
  | .rankings v => [.str "rankings", v]
def swapOf (n : Nat) (x : Box) : V → Option Nat
  | .int z => if bel ((n : Int) - 1) (.int z) = true ∧ may x.R x.A z.toNat = true then some z.toNat else none
  | _ => none
def personOf (n : Nat) : V → Option Nat
  | .int z => if bel n (.int z) = true then some z.toNat else none
  | _ => none
/-- what a change does: the error, or the new box -/
def stepB (n : Nat) (x : Box) : Req → Sum Err Box
  | .undo => if x.deeds = [] then .inl .nothing else .inr x.back
  | .swap v => match swapOf n x v with
    | some p => .inr (x.then (.swap p) (x.R, swp x.A p))
    | none => .inl (.swap v)
  | .rerank v _ o => match personOf n v with
    | none => .inl (.person v)
    | some p => match o with
      | some ns => .inr (x.then (.rerank p ns) (x.R.set p ns, x.A))
      | none => .inl (.rankings v)
/-- values a change is asked with; N: where a list stands; d: as data -/
inductive OddV (N : Addr → Prop) (H : Hp) : V → PyData → Prop
  | int (z : Int) : OddV N H (.int z) (.int z)
  | bl (b : Bool) : OddV N H (.bl b) (.bool b)
  | non : OddV N H .non .none
  | str (c : Nat) : c < 128 → OddV N H (.str ⟨#[c]⟩) (.str ⟨#[c]⟩)
  | tup {a : Addr} : H a = some (.tup [.int 0]) → OddV N H (.ref a) (.tuple [.int 0])
  | lst {a : Addr} : N a → H a = some (.lst [.int 0]) → OddV N H (.ref a) (.list [.int 0])
def RkN (N : Addr → Prop) (H : Hp) (v : V) : Prop := ∀ a xs, v = .ref a → H a = some (.lst xs) → N a
/-- a requested change as a tuple at t -/
def ReqAt (N : Addr → Prop) (n : Nat) (H : Hp) (t : Addr) : Req → Prop
  | .undo => H t = some (.tup [.str "undo"])
  | .swap v => H t = some (.tup [.str "swap", v]) ∧ ∃ d, OddV N H v d
  | .rerank v w o => H t = some (.tup [.str "rerank", v, w]) ∧ (∃ d, OddV N H v d) ∧ RkArg H n w o ∧ RkN N H w
/-- the exception that tells an error: its class, its dict -/
def ExcCD (A : Ad) (H : Hp) : Err → Addr → Option Addr → Prop
  | .nothing, C, d => C = A.eN ∧ d = none
  | .swap v, C, d => C = A.eS ∧ ∃ dd, d = some dd ∧ H dd = some (.xd [("value", v)])
  | .person v, C, d => C = A.eP ∧ ∃ dd, d = some dd ∧ H dd = some (.xd [("value", v)])
  | .rankings v, C, d => C = A.eR ∧ ∃ dd, d = some dd ∧ H dd = some (.xd [("person", v)])
section
variable {TP : List (Addr × Str) → Prop} {fs : List Addr} {N : Addr → Prop} {H H1 : Hp} {n : Nat} {v w : V} {o : Option (List Int)} {d : PyData} {b : Bool}
theorem OddV.kind (h : OddV N H v d) : ∃ b, KindV H v b := by
  cases h with
  | int z => exact ⟨_, .int z⟩
  | bl b => exact ⟨_, .bl b⟩
  | non => exact ⟨_, .non⟩
  | str c _ => exact ⟨_, .str _⟩
  | tup h => exact ⟨_, .tup h⟩
  | lst _ h => exact ⟨_, .lst h⟩
theorem OddV.frm (h : OddV N H v d) (f : FrmT TP fs H H1) (hN : ∀ a, N a → a ∉ fs) : OddV N H1 v d := by
  cases h with
  | int z => exact .int z
  | bl b => exact .bl b
  | non => exact .non
  | str c h => exact .str c h
  | tup h => exact .tup (f.tp _ _ h)
  | lst n h => exact .lst n (f.lst h (hN _ n))
theorem OddV.dp {K : PySem.W.Frag} (h : OddV N H v d) : Dp K H v d := by
  cases h with
  | int z => exact .int z
  | bl b => exact .bl b
  | non => exact .non
  | str c _ => exact .str _
  | tup h => exact .tup (SqT.of h) (.cons (.int 0) .nil)
  | lst _ h => exact .lst (SqL.of h) (.cons (.int 0) .nil)
theorem OddV.sh (h : OddV N H v d) : Sh 3 d := by
  cases h with
  | int z => exact sh_int _
  | bl b => exact ⟨by simp [PyData.canLay0], by simp [PyData.depth]⟩
  | non => exact ⟨by simp [PyData.canLay0], by simp [PyData.depth]⟩
  | str c h => exact ⟨by simp [PyData.canLay0, PyData.strOk]; omega, by simp [PyData.depth]⟩
  | tup h => exact sh_tup fun d hd => by rw [List.mem_singleton.mp hd]; exact (sh_int (k := 1) 0)
  | lst _ h => exact sh_lst fun d hd => by rw [List.mem_singleton.mp hd]; exact (sh_int (k := 1) 0)
theorem RkArg.frm (h : RkArg H n w o) (f : FrmT TP fs H H1) (hN : ∀ a xs, w = .ref a → H a = some (.lst xs) → a ∉ fs) : RkArg H1 n w o := by
  cases h with
  | int h l => exact .int (h.frm f) l
  | bl h e l => exact .bl (f.tp _ _ h) e l
  | lst h => exact .lst (f.lst h (hN _ _ rfl h))
  | non => exact .non
theorem RkArg.frm0 (h : RkArg H n w o) (f : FrmT TP [] H H1) : RkArg H1 n w o := h.frm f fun _ _ _ _ z => nomatch z
theorem RkN.frm (h : RkN N H w) (r : RkArg H n w o) (f : FrmT TP fs H H1) (hN : ∀ a, N a → a ∉ fs) : RkN N H1 w := fun a xs e h1 => by
  cases r with
  | int q l =>
    obtain rfl := V.ref.inj e
    obtain ⟨_, q, _⟩ := q.frm f
    rw [q] at h1
    cases h1
  | bl q e2 l =>
    obtain rfl := V.ref.inj e
    have := f.tp _ _ q
    rw [this] at h1
    cases h1
  | lst q =>
    obtain rfl := V.ref.inj e
    exact h _ _ rfl q
  | non => cases e
theorem ReqAt.frm {t : Addr} {q : Req} (h : ReqAt N n H t q) (f : FrmT TP fs H H1) (hN : ∀ a, N a → a ∉ fs) : ReqAt N n H1 t q := by
  cases q with
  | undo => exact f.tp _ _ h
  | swap v =>
    obtain ⟨h, d, k⟩ := h
    exact ⟨f.tp _ _ h, d, k.frm f hN⟩
  | rerank v w o =>
    obtain ⟨h, ⟨d, k⟩, r, m⟩ := h
    exact ⟨f.tp _ _ h, ⟨d, k.frm f hN⟩, r.frm f fun a xs e q => hN a (m a xs e q), m.frm r f hN⟩
theorem KindV.frm (h : KindV H v b) (f : FrmT TP fs H H1) (hN : ∀ a xs, v = .ref a → H a = some (.lst xs) → a ∉ fs) : KindV H1 v b := by
  cases h with
  | int z => exact .int z
  | bl b => exact .bl b
  | non => exact .non
  | str x => exact .str x
  | tup h => exact .tup (f.tp _ _ h)
  | lst h => exact .lst (f.lst h (hN _ _ rfl h))
theorem KindV.frm0 (h : KindV H v b) (f : FrmT TP [] H H1) : KindV H1 v b := h.frm f fun _ _ _ _ z => nomatch z
end
/-! ### the promises -/
def spIsInt : Sp := fun vs H Q _ => ∃ v b, vs = [v] ∧ KindV H v b ∧ Q (.bl b) H
def spBelow : Sp := fun vs H Q _ => ∃ (v : V) (n : Int) (b : Bool), vs = [v, .int n] ∧ KindV H v b ∧ Q (.bl (bel n v)) H
def spIsRanking : Sp := fun vs H Q _ => ∃ (v : V) (n : Nat) (o : Option (List Int)), vs = [v, .int n] ∧ n ≤ 100 ∧ RkArg H n v o ∧ ∀ H', Frm [] H H' → Q (.bl o.isSome) H'
def spCheckRankings : Sp := fun vs H Q _ => ∃ (r : Addr) (R : List (List Int)), vs = [.ref r] ∧ TT H r R ∧ 1 ≤ R.length ∧ R.length ≤ 40 ∧ (∀ ns ∈ R, PermN ns R.length) ∧ ∀ H', Frm [] H H' → Q .non H'
def spCheckPerson (A : Ad) : Sp := fun vs H Q E => ∃ (r : Addr) (R : List (List Int)) (v : V) (b : Bool), vs = [.ref r, v] ∧ TT H r R ∧ KindV H v b ∧ (bel R.length v = true → Q .non H) ∧ (bel R.length v = false → ∀ d, H d = none → E (.ref A.eP) (some d) (upd H d (.xd [("value", v)])))
def spTables : Sp := fun vs H Q _ => ∃ (r : Addr) (R : List (List Int)), vs = [.ref r] ∧ TT H r R ∧ R.length ≤ 100 ∧ (∀ ns ∈ R, ns.Nodup ∧ ns.length ≤ 100) ∧ ∀ p H', Frm [] H H' → TbAt H' p R → Q (.ref p) H'
def spCheckArr : Sp := fun vs H Q _ => ∃ (a : Addr) (ns : List Int), vs = [.ref a] ∧ TI H a ns ∧ 1 ≤ ns.length ∧ ns.length ≤ 40 ∧ PermN ns ns.length ∧ ∀ H', Frm [] H H' → Q .non H'
def spCheckFit : Sp := fun vs H Q _ => ∃ (r a : Addr) (n : Nat) (x : RA), vs = [.ref r, .ref a] ∧ TT H r x.1 ∧ TI H a x.2 ∧ 1 ≤ n ∧ n ≤ 40 ∧ Val n x ∧ ∀ H', Frm [] H H' → Q .non H'
def spAllowedThere : Sp := fun vs H Q _ => ∃ (p a : Addr) (n i : Nat) (x : RA), vs = [.ref p, .ref a, .int i] ∧ TbAt H p x.1 ∧ TI H a x.2 ∧ Val n x ∧ i + 1 < n ∧ Q (.bl (may x.1 x.2 i)) H
def spAllowed : Sp := fun vs H Q _ => ∃ (r a : Addr) (n : Nat) (x : RA), vs = [.ref r, .ref a] ∧ TT H r x.1 ∧ TI H a x.2 ∧ 1 ≤ n ∧ n ≤ 40 ∧ Val n x ∧ ∀ p H', Frm [] H H' → TI H' p (alI n x.1 x.2) → Q (.ref p) H'
def spSwapped : Sp := fun vs H Q _ => ∃ (a : Addr) (ns : List Int) (i : Nat), vs = [.ref a, .int i] ∧ TI H a ns ∧ ns.length ≤ 1000 ∧ i + 1 < ns.length ∧ ∀ p H', Frm [] H H' → TI H' p (swp ns i) → Q (.ref p) H'
/-- an exception's __init__ with one field -/
def spExc1 (K : PySem.W.Frag) (C : Addr) (f : Str) : Sp := fun vs H Q _ => ∃ (a : Addr) (v : V), vs = [.ref a, v] ∧ H a = some (exo a C none) ∧ ∀ dx, H dx = none → dx ≠ a → Q .non (upd (upd H dx (exd dx [(f, v)])) a (exo a C (some dx)))
def spExc0 (K : PySem.W.Frag) (C : Addr) : Sp := fun vs H Q _ => ∃ (a : Addr), vs = [.ref a] ∧ H a = some (exo a C none) ∧ Q .non H
def spInit (C : Addr) : Sp := fun vs H Q _ => ∃ (b dx r : Addr) (v : V) (n : Nat) (x : RA), vs = [.ref b, .ref r, v] ∧ H b = some (.ins C dx []) ∧ TT H r x.1 ∧ (v = .non ∧ x.2 = rng n ∨ ∃ a, v = .ref a ∧ TI H a x.2) ∧ 1 ≤ n ∧ n ≤ 40 ∧ Val n x ∧
  ∀ c s H', H c = none → H s = none → c ≠ b → s ≠ b → Frm [b] H H' → BoxAt C H' b c s (Box.new x) → Q .non H'
def spRankings (C : Addr) : Sp := fun vs H Q _ => ∃ (b dx r a c s : Addr), vs = [.ref b] ∧ H b = some (.ins C dx (flds r a c s)) ∧ Q (.ref r) H
def spArr (C : Addr) : Sp := fun vs H Q _ => ∃ (b dx r a c s : Addr), vs = [.ref b] ∧ H b = some (.ins C dx (flds r a c s)) ∧ Q (.ref a) H
def spRowAllowed (C : Addr) : Sp := fun vs H Q _ => ∃ (b dx r a c s : Addr) (n : Nat) (x : RA), vs = [.ref b] ∧ H b = some (.ins C dx (flds r a c s)) ∧ TT H r x.1 ∧ TI H a x.2 ∧ 1 ≤ n ∧ n ≤ 40 ∧ Val n x ∧ ∀ p H', Frm [] H H' → TI H' p (alI n x.1 x.2) → Q (.ref p) H'
def spRecord (C : Addr) : Sp := fun vs H Q _ => ∃ (b c s : Addr) (x : Box) (v : V) (d : Deed), vs = [.ref b, v] ∧ BoxAt C H b c s x ∧ DAt H v d ∧ x.deeds.length ≤ 1000 ∧ x.past.length ≤ 1000 ∧ ∀ H', Frm [c, s] H H' → BoxAt C H' b c s (x.then d x.ra) → Q .non H'
def spRowSwap (A : Ad) : Sp := fun vs H Q E => ∃ (b c s : Addr) (n m : Nat) (x0 : RA) (x : Box) (v : V) (k : Bool), vs = [.ref b, v] ∧ BoxAt A.C H b c s x ∧ Good n m x0 x ∧ m ≤ 1000 ∧ KindV H v k ∧
  (∀ p, swapOf n x v = some p → ∀ H', Frm [b, c, s] H H' → BoxAt A.C H' b c s (x.then (.swap p) (x.R, swp x.A p)) → Q .non H') ∧
  (swapOf n x v = none → ∀ d H', Frm [] H H' → H' d = some (.xd [("value", v)]) → E (.ref A.eS) (some d) H')
def spRowRerank (A : Ad) : Sp := fun vs H Q E => ∃ (b c s : Addr) (n m : Nat) (x0 : RA) (x : Box) (v w : V) (k : Bool) (o : Option (List Int)), vs = [.ref b, v, w] ∧ BoxAt A.C H b c s x ∧ Good n m x0 x ∧ m ≤ 1000 ∧ KindV H v k ∧ RkArg H n w o ∧
  (personOf n v = none → ∀ d H', Frm [] H H' → H' d = some (.xd [("value", v)]) → E (.ref A.eP) (some d) H') ∧
  (∀ p, personOf n v = some p → o = none → ∀ d H', Frm [] H H' → H' d = some (.xd [("person", v)]) → E (.ref A.eR) (some d) H') ∧
  (∀ p ns, personOf n v = some p → o = some ns → ∀ H', Frm [b, c, s] H H' → BoxAt A.C H' b c s (x.then (.rerank p ns) (x.R.set p ns, x.A)) → Q .non H')
def spRowUndo (A : Ad) : Sp := fun vs H Q E => ∃ (b c s : Addr) (n m : Nat) (x0 : RA) (x : Box), vs = [.ref b] ∧ BoxAt A.C H b c s x ∧ Good n m x0 x ∧
  (x.deeds = [] → ∀ H', Frm [] H H' → E (.ref A.eN) none H') ∧ (x.deeds ≠ [] → ∀ H', Frm [b, c, s] H H' → BoxAt A.C H' b c s x.back → Q .non H')
def spRowLog (C : Addr) : Sp := fun vs H Q _ => ∃ (b dx r a c s : Addr) (cs : List V), vs = [.ref b] ∧ H b = some (.ins C dx (flds r a c s)) ∧ H c = some (.lst cs) ∧ ∀ p, H p = none → Q (.ref p) (upd H p (.lst cs))
def spRowCopy (C : Addr) : Sp := fun vs H Q _ => ∃ (b c s : Addr) (n m : Nat) (x0 : RA) (x : Box), vs = [.ref b] ∧ BoxAt C H b c s x ∧ Good n m x0 x ∧
  ∀ b' c' s' H', H b' = none → H c' = none → H s' = none → Frm [] H H' → BoxAt C H' b' c' s' x → Q (.ref b') H'
def spRowLen (C : Addr) : Sp := fun vs H Q _ => ∃ (b dx r a c s : Addr) (R : List (List Int)), vs = [.ref b] ∧ H b = some (.ins C dx (flds r a c s)) ∧ TT H r R ∧ Q (.int R.length) H
def spRowEq (C : Addr) : Sp := fun vs H Q _ => ∃ (b dx r a c s : Addr) (x : RA) (v : V), vs = [.ref b, v] ∧ H b = some (.ins C dx (flds r a c s)) ∧ TT H r x.1 ∧ TI H a x.2 ∧
  ((ItK H v ∧ Q (.bl false) H) ∨ ∃ (b' dx' r' a' c' s' : Addr) (y : RA), v = .ref b' ∧ H b' = some (.ins C dx' (flds r' a' c' s')) ∧ TT H r' y.1 ∧ TI H a' y.2 ∧ Q (.bl (decide (x.1 = y.1) && decide (x.2 = y.2))) H)
/-! the law's -/
def spMixed : Sp := fun vs H Q _ => ∃ (c n : Int), vs = [.int c, .int n] ∧ 0 ≤ c ∧ c < 2 ^ 60 ∧ 0 ≤ n ∧ n < 2 ^ 42 ∧ ∀ z : Int, 0 ≤ z → z < 2 ^ 32 → Q (.int z) H
def spFolded (K : PySem.W.Frag) : Sp := fun vs H Q _ => ∃ (a : Addr) (ns : List Int), vs = [.ref a] ∧ SqL K H a (ns.map V.int) ∧ ns.length ≤ 63 ∧
  ∀ p H' (cs : List Int), Frm [] H H' → H p = none → H' p = some (.lst (cs.map V.int)) → cs.length = 64 → (∀ c ∈ cs, 0 ≤ c ∧ c < 2147483648) → Q (.ref p) H'
def spDraw : Sp := fun vs H Q _ => ∃ (M : Mm) (bd top : Nat), vs = [.ref M.dm, .int top] ∧ MAt H M bd ∧ bd ≤ 2 ^ 40 ∧ 1 ≤ top ∧ top ≤ 1000 ∧ ∀ (k : Nat) H', k < top → Frm M.fs H H' → MAt H' M (bd + 1) → Q (.int k) H'
def spBegun (K : PySem.W.Frag) : Sp := fun vs H Q _ => ∃ (a : Addr) (ns : List Int), vs = [.ref a] ∧ SqL K H a (ns.map V.int) ∧ ns.length ≤ 63 ∧ ∀ (M : Mm) H', Frm [] H H' → MAt H' M 0 → Q (.ref M.dm) H'
def spMixedUp : Sp := fun vs H Q _ => ∃ (M : Mm) (bd : Nat) (l : Addr) (xs : List Int), vs = [.ref M.dm, .ref l] ∧ MAt H M bd ∧ bd + 100 ≤ 2 ^ 40 ∧ H l = some (.lst (xs.map V.int)) ∧ xs.length ≤ 100 ∧
  ∀ (ys : List Int) p H', ys.Perm xs → H p = none → H' p = some (.lst (ys.map V.int)) → Frm M.fs H H' → MAt H' M (bd + 100) → Q (.ref p) H'
/-- a list of lists of ints, all new since H -/
def LL (H H' : Hp) (v : V) (l : List Int) : Prop := ∃ a, v = .ref a ∧ H' a = some (.lst (l.map V.int)) ∧ H a = none
def spWalked : Sp := fun vs H Q _ => ∃ (M : Mm) (bd n : Nat), vs = [.ref M.dm, .int n] ∧ MAt H M bd ∧ bd + 300 ≤ 2 ^ 40 ∧ 1 ≤ n ∧ n ≤ 40 ∧
  ∀ p H' (hs : List V) (row : List Int) (held : List (List Int)) (mv : Int → Option Int), WInv n row held mv → H p = none → H' p = some (.lst hs) → Paired (LL H H') hs held → (∀ l ∈ held, l.length ≤ 100) → Frm M.fs H H' → MAt H' M (bd + 300) → Q (.ref p) H'
def spLists : Sp := fun vs H Q _ => ∃ (M : Mm) (bd n : Nat), vs = [.ref M.dm, .int n] ∧ MAt H M bd ∧ bd + 20000 ≤ 2 ^ 40 ∧ 1 ≤ n ∧ n ≤ 40 ∧
  ∀ r H' (R : List (List Int)), TT H' r R → R.length = n → (∀ ns ∈ R, PermN ns n) → Frm M.fs H H' → MAt H' M (bd + 20000) → Q (.ref r) H'
def spLikes : Sp := fun vs H Q _ => ∃ (r : Addr) (R : List (List Int)) (i : Nat) (l : List Int) (y z : Int), vs = [.ref r, .int i, .int y, .int z] ∧ TT H r R ∧ R[i]? = some l ∧ y ∈ l ∧ z ∈ l ∧ Q (.bl (pref R i y z)) H
def spMay : Sp := fun vs H Q _ => ∃ (r a : Addr) (n i : Nat) (x : RA), vs = [.ref r, .ref a, .int i] ∧ TT H r x.1 ∧ TI H a x.2 ∧ Val n x ∧ i + 1 < n ∧ Q (.bl (may x.1 x.2 i)) H
def spAnyRow : Sp := fun vs H Q _ => ∃ (M : Mm) (bd n : Nat), vs = [.ref M.dm, .int n] ∧ MAt H M bd ∧ bd + 1000 ≤ 2 ^ 40 ∧ 1 ≤ n ∧ n ≤ 40 ∧
  ∀ a H' (A : List Int), TI H' a A → PermN A n → Frm M.fs H H' → MAt H' M (bd + 1000) → Q (.ref a) H'
def spRecorded : Sp := fun vs H Q _ => ∃ (r a : Addr) (x : RA), vs = [.ref r, .ref a] ∧ TT H r x.1 ∧ TI H a x.2 ∧ ∀ k H', Frm [] H H' → H k = none → (∀ av, (∀ z ∈ av, H z ≠ none) → KeptAt av H' k (Box.new x)) → Q (.ref k) H'
def spIsRanked : Sp := fun vs H Q _ => ∃ (v : V) (n : Nat) (o : Option (List Int)), vs = [v, .int n] ∧ n ≤ 100 ∧ RkArg H n v o ∧ ∀ H', Frm [] H H' → Q (.bl o.isSome) H'
def spError : Sp := fun vs H Q _ => ∃ (k t : Addr) (av : List Addr) (N : Addr → Prop) (n m : Nat) (x0 : RA) (x : Box) (q : Req), vs = [.ref k, .ref t] ∧ KeptAt av H k x ∧ Good n m x0 x ∧ ReqAt N n H t q ∧
  (∀ e, stepB n x q = .inl e → ∀ p H', Frm [] H H' → H p = none → H' p = some (.tup (errV e)) → Q (.ref p) H') ∧ (∀ y, stepB n x q = .inr y → ∀ H', Frm [] H H' → Q .non H')
def spChanged : Sp := fun vs H Q _ => ∃ (k t : Addr) (av : List Addr) (N : Addr → Prop) (n m : Nat) (x0 : RA) (x : Box) (q : Req), vs = [.ref k, .ref t] ∧ KeptAt av H k x ∧ Good n m x0 x ∧ m ≤ 1000 ∧ (∀ z ∈ av, H z ≠ none) ∧ ReqAt N n H t q ∧
  (∀ e, stepB n x q = .inl e → ∀ p H', Frm [] H H' → H p = none → H' p = some (.tup (errV e)) → Q (.ref p) H') ∧
  (∀ y, stepB n x q = .inr y → ∀ p H', Frm [k] H H' → KeptAt av H' k y → H p = none → H' p = some (.lst [.non]) → Q (.ref p) H')
def spClass (A : Ad) : Sp := fun vs H Q _ => ∃ (a C : Addr) (d : Option Addr) (e : Err), vs = [.ref a] ∧ H a = some (exk a C d) ∧ ExcCD A H e C d ∧ ∀ p, H p = none → Q (.ref p) (upd H p (.tup (errV e)))
def spChange : Sp := fun vs H Q _ => ∃ (M : Mm) (bd : Nat) (k : Addr) (av : List Addr) (n m : Nat) (x0 : RA) (x : Box), vs = [.ref M.dm, .ref k] ∧ MAt H M bd ∧ bd + 1000 ≤ 2 ^ 40 ∧ KeptAt av H k x ∧ (∀ z ∈ M.fs, z ∈ av) ∧ Good n m x0 x ∧
  ∀ t H' (q : Req), ReqAt (fun a => H a = none) n H' t q → Frm M.fs H H' → MAt H' M (bd + 1000) → Q (.ref t) H'
def spDo (A : Ad) : Sp := fun vs H Q E => ∃ (b c s t : Addr) (N : Addr → Prop) (n m : Nat) (x0 : RA) (x : Box) (q : Req), vs = [.ref b, .ref t] ∧ BoxAt A.C H b c s x ∧ Good n m x0 x ∧ m ≤ 1000 ∧ ReqAt N n H t q ∧
  (∀ e, stepB n x q = .inl e → ∀ C d H', Frm [] H H' → ExcCD A H' e C d → E (.ref C) d H') ∧ (∀ y, stepB n x q = .inr y → ∀ H', Frm [b, c, s] H H' → BoxAt A.C H' b c s y → Q .non H')
def spIsSo (A : Ad) : Sp := fun vs H Q _ => ∃ (b c s k : Addr) (av : List Addr) (n m : Nat) (x0 : RA) (x : Box), vs = [.ref b, .ref k] ∧ BoxAt A.C H b c s x ∧ KeptAt av H k x ∧ Good n m x0 x ∧ m ≤ 1000 ∧ ∀ H', Frm [] H H' → Q (.bl true) H'
def spLikesRight (A : Ad) : Sp := fun vs H Q _ => ∃ (b c s k : Addr) (av : List Addr) (n m : Nat) (x0 : RA) (x : Box), vs = [.ref b, .ref k] ∧ BoxAt A.C H b c s x ∧ KeptAt av H k x ∧ Good n m x0 x ∧ ∀ H', Frm [] H H' → Q (.bl true) H'
def spMany (T : List (Addr × Str)) : Sp := fun vs H Q _ => ∃ (M : Mm) (bd n : Nat) (r : Addr) (R : List (List Int)), vs = [.ref M.dm, .ref r] ∧ MAt H M bd ∧ bd + 1000 ≤ 2 ^ 40 ∧ TT H r R ∧ 1 ≤ n ∧ n ≤ 8 ∧ R.length = n ∧ (∀ ns ∈ R, PermN ns n) ∧ LamX.Tabs T H ∧
  ∀ H', FrmT (fun S => S = T) M.fs H H' → MAt H' M (bd + 1000) → Q (.bl true) H'
def spLaw (K : PySem.W.Frag) (T : List (Addr × Str)) : Sp := fun vs H Q _ => ∃ (a : Addr) (ns : List Int), vs = [.ref a] ∧ SqL K H a (ns.map V.int) ∧ ns.length ≤ 63 ∧ LamX.Tabs T H ∧ ∀ H', Q (.bl true) H'
end Sw
set_option maxHeartbeats 4000000
/-! Swaprow: short words -/
namespace L2
open PySem PySem.Spec PyProof.Rows
/-- x is of the built-in type T or not -/
def IsT (K : PySem.W.Frag) (T : String) (H : Hp) (x : V) (b : Bool) : Prop := ∃ t, TyX K H x (.type t) ∧ PySem.W.kitOne K (.type t) (.type T) = some b
def rIsT (K : PySem.W.Frag) (T : String) : List V → Hp → VK → Prop := fun xs H Q => ∃ (x : V) (b : Bool), xs = [x, .ty T] ∧ IsT K T H x b ∧ Q (.bl b) H
section
variable {X : Cx} {e e2 : Expr} {te : TE} {p p2 pos : Pos} {n : Str} {T : String}
theorem call_isT : CallR X (.builtin "isinstance") (rIsT X.K T) := by
  intro pins s σ H xs us Q I r h
  obtain ⟨x, b, rfl, ⟨t, ty, kt⟩, q⟩ := h
  exact call_isi pins s σ H _ us Q I r ⟨x, .ty T, _, _, b, rfl, .ty T, ty, kt, q⟩
theorem pe_isi (hm : X.mg "isinstance" = none) (he : PE X e te) (hmn : X.mg n = none) (hv : bootBuiltins n = some (.type T)) (hg : Gl X "isinstance" := by rfl) (hgn : Gl X n := by rfl) (hn : n ≠ "__name__" := by decide) (hd : (n == ("__debug__" : Str)) = false := by decide)
    (he1 : starEach [e, .Name n p2] X.env = (false, eval e X.env) :: starEach [.Name n p2] X.env := by rfl) (he2 : starEach [.Name n p2] X.env = (false, eval (.Name n p2) X.env) :: starEach [] X.env := by rfl) (hpl : (backTo pos (starEach [.Name n p2] X.env)).any (·.1) = false := by rfl) :
    PE X (.Call (.Name "isinstance" p) [e, .Name n p2] [] pos) (tCB (rIsT X.K T) (tCons te (tCons (tC (.ty T)) tNil))) :=
  pe_callB (p := p) (pos := pos) call_isT hg hm boot_isinstance (pa_cons he (pa_cons (pe_bltn (v := .ty T) (pos := p2) hgn hmn hv rfl hn hd) pa_nil he2) he1) (by decide) (by decide) he1 hpl
/-- len of a list or a tuple that is tracked -/
def rLenO : List V → Hp → VK → Prop := fun xs H Q => ∃ p ys, xs = [.ref p] ∧ (H p = some (.lst ys) ∨ H p = some (.tup ys)) ∧ Q (.int ys.length) H
theorem call_lenO : CallR X (.builtin "len") rLenO := by
  intro pins s σ H xs us Q I r h
  obtain ⟨p, ys, rfl, h, q⟩ := h
  exact call_len_seq pins s σ H _ us Q I r ⟨p, ys, rfl, h.elim (fun z => .inl (SqL.of z)) (fun z => .inr (SqT.of z)), q⟩
theorem pe_len (hm : X.mg "len" = none) (he : PE X e te) (hg : Gl X "len" := by rfl)
    (he1 : starEach [e] X.env = (false, eval e X.env) :: starEach [] X.env := by rfl) (hpl : (backTo pos (starEach [] X.env)).any (·.1) = false := by rfl) :
    PE X (.Call (.Name "len" p) [e] [] pos) (tCB rLenO (tCons te tNil)) :=
  pe_callB (p := p) (pos := pos) call_lenO hg hm boot_len (pa_cons he pa_nil he1) (by decide) (by decide) he1 hpl
/-- len of a tuple, frozen or not -/
def rLenR : List V → Hp → VK → Prop := fun xs H Q => ∃ p ys, xs = [.ref p] ∧ Rd H p (.tup ys) ∧ Q (.int ys.length) H
theorem call_lenR : CallR X (.builtin "len") rLenR := by
  intro pins s σ H xs us Q I r h
  obtain ⟨p, ys, rfl, h, q⟩ := h
  exact call_len_seq pins s σ H _ us Q I r ⟨p, ys, rfl, .inr (.inl h), q⟩
theorem pe_lenR (hm : X.mg "len" = none) (he : PE X e te) (hg : Gl X "len" := by rfl)
    (he1 : starEach [e] X.env = (false, eval e X.env) :: starEach [] X.env := by rfl) (hpl : (backTo pos (starEach [] X.env)).any (·.1) = false := by rfl) :
    PE X (.Call (.Name "len" p) [e] [] pos) (tCB rLenR (tCons te tNil)) :=
  pe_callB (p := p) (pos := pos) call_lenR hg hm boot_len (pa_cons he pa_nil he1) (by decide) (by decide) he1 hpl
end
section
variable {K : PySem.W.Frag} {H : Hp} {a : Addr} {xs : List V}
theorem isT_int (z : Int) : IsT K "int" H (.int z) true := ⟨_, .base (.int z), kit_ty (by decide +kernel)⟩
theorem isT_int_bl (z : Bool) : IsT K "int" H (.bl z) true := ⟨_, .base (.bl z), kit_ty (by decide +kernel)⟩
theorem isT_int_non : IsT K "int" H .non false := ⟨_, .base .non, kit_ty (by decide +kernel)⟩
theorem isT_int_str (z : Str) : IsT K "int" H (.str z) false := ⟨_, .base (.str z), kit_ty (by decide +kernel)⟩
theorem isT_int_tup (h : H a = some (.tup xs)) : IsT K "int" H (.ref a) false := ⟨_, .base (.tup h), kit_ty (by decide +kernel)⟩
theorem isT_int_lst (h : H a = some (.lst xs)) : IsT K "int" H (.ref a) false := ⟨_, .base (.lst h), kit_ty (by decide +kernel)⟩
theorem isT_bool (z : Int) : IsT K "bool" H (.int z) false := ⟨_, .base (.int z), kit_ty (by decide +kernel)⟩
theorem isT_bool_bl (z : Bool) : IsT K "bool" H (.bl z) true := ⟨_, .base (.bl z), kit_ty (by decide +kernel)⟩
theorem isT_tup (h : H a = some (.tup xs)) : IsT K "tuple" H (.ref a) true := ⟨_, .base (.tup h), kit_ty (by decide +kernel)⟩
theorem isT_tupF {ns : List Int} (h : Sw.TF H a ns) : IsT K "tuple" H (.ref a) true := let ⟨_, h, _⟩ := h; ⟨_, .fTuple h, kit_ty (by decide +kernel)⟩
theorem isT_tup_lst (h : H a = some (.lst xs)) : IsT K "tuple" H (.ref a) false := ⟨_, .base (.lst h), kit_ty (by decide +kernel)⟩
theorem isT_tup_non : IsT K "tuple" H .non false := ⟨_, .base .non, kit_ty (by decide +kernel)⟩
theorem isT_tup_int (z : Int) : IsT K "tuple" H (.int z) false := ⟨_, .base (.int z), kit_ty (by decide +kernel)⟩
end
theorem iteP {c A B : Prop} [Decidable c] (hc : c) (h : A) : if c then A else B := by rw [if_pos hc]; exact h
theorem iteN {c A B : Prop} [Decidable c] (hc : ¬ c) (h : B) : if c then A else B := by rw [if_neg hc]; exact h
/-- a test with a known answer -/
theorem iteB {b : Bool} {A B : Prop} (h1 : b = true → A) (h2 : b = false → B) : if b = true then A else B := by
  cases b with
  | true => exact iteT (h1 rfl)
  | false => exact iteF (h2 rfl)
/-! ### raise C(e), C() with an own __init__ -/
section
variable {X : Cx} {W : WX} {e : Expr} {es : List Expr} {p pos : Pos} {x : Str} {C : Addr} {f : Str} {ta : TA} {CX : CXT} {k : Nat}
structure ExDef (P : Program) (w : World) (K : PySem.W.Frag) (mg : Str → Option Value) (base : Heap) (CX : CXT) (k : Nat) (C : Addr) (ps : List Str) (sp : Sp) : Prop where
  ex : ∃ (f : Addr) (fd : FuncData), PySem.W.findIn K (.ref C) "__init__" = some (some (.ref f)) ∧ PySem.W.typeIn K (.ref f) = some (.type "function") ∧ Binds K fd ps [] ∧ FnOk P w K mg base CX k f fd ps sp
theorem del_eq {H : Hp} {a d C : Addr} {o : HO} {fs : List (Str × V)} (ha : H a = none) (hd : H d = none) (ne : d ≠ a) : upd (del (upd (upd H d (exd d fs)) a o) a) d (.xd fs) = upd H d (.xd fs) := by
  funext b
  by_cases e1 : b = d
  · rw [e1, upd_same, upd_same]
  · rw [upd_ne e1, upd_ne e1]
    by_cases e2 : b = a
    · rw [e2, del_same, ha]
    · rw [del_ne e2, upd_ne e2, upd_ne e1]
theorem del_upd {H : Hp} {a : Addr} {o : HO} (ha : H a = none) : del (upd H a o) a = H := by
  funext b
  by_cases e1 : b = a
  · rw [e1, del_same, ha]
  · rw [del_ne e1, upd_ne e1]
theorem ps_raise1 {ps : List Str} {sp : Sp} {pos2 : Pos} (T : OexC X.K C) (D : ExDef X.prog X.w X.K X.mg X.base CX0 k C ps sp) (hr : Room (k + 1) X.A) (hm : X.mg x = some (.ref C)) (tk : Takes X W) (ha : PA X (e :: es) ta) (hc : X.calm = true := by rfl) (hg : Gl X x := by rfl)
    (hdb : (x == ("__debug__" : Str)) = false := by decide) (he : starEach (e :: es) X.env = (false, eval e X.env) :: starEach es X.env := by rfl) (hpl : (backTo pos (starEach es X.env)).any (·.1) = false := by rfl) :
    PS X (.Raise (some (.Call (.Name x p) (e :: es) [] pos)) none pos2) (fun _ σ H => tMkO C sp [] ta σ H fun cls d H' => W cls d σ H') := by
  obtain ⟨fi, fd, iC, tI, b, F⟩ := D.ex
  exact ps_raise (pos := pos2) hc tk (pmk_oex (p := p) (pos := pos) T iC tI F hr b .nil pass0 hg hm ha hdb he hpl)
theorem ps_raise0 {ps : List Str} {sp : Sp} {pos2 : Pos} (T : OexC X.K C) (D : ExDef X.prog X.w X.K X.mg X.base CX0 k C ps sp) (hr : Room (k + 1) X.A) (hm : X.mg x = some (.ref C)) (tk : Takes X W) (hc : X.calm = true := by rfl) (hg : Gl X x := by rfl)
    (hdb : (x == ("__debug__" : Str)) = false := by decide) :
    PS X (.Raise (some (.Call (.Name x p) [] [] pos)) none pos2) (fun _ σ H => tMkO0 C sp σ H fun cls d H' => W cls d σ H') := by
  obtain ⟨fi, fd, iC, tI, b, F⟩ := D.ex
  exact ps_raise (pos := pos2) hc tk (pmk_oex0 (p := p) (pos := pos) T iC tI F hr b pass0 hg hm hdb)
end
theorem raise1_end {K : PySem.W.Frag} {C : Addr} {f : Str} {H : Hp} {v : V} {Q : XK} (h : ∀ d, H d = none → Q (.ref C) (some d) (upd H d (.xd [(f, v)]))) :
    [v].length ≤ 1000 ∧ ∀ a, H a = none → Sw.spExc1 K C f (.ref a :: ([v] ++ [])) (upd H a (exo a C none))
      (fun v H2 => v = .non ∧ ∃ (d : Addr) (fs : List (Str × V)), H2 a = some (exo a C (some d)) ∧ H2 d = some (exd d fs) ∧ H d = none ∧ Q (.ref C) (some d) (upd (del H2 a) d (.xd fs))) (fun _ _ _ => False) := by
  refine ⟨by simp, fun a ha => ⟨a, v, rfl, upd_same, fun dx hd ne => ?_⟩⟩
  have hd0 : H dx = none := by rw [upd_ne ne] at hd; exact hd
  have e0 : upd (upd (upd H a (exo a C none)) dx (exd dx [(f, v)])) a (exo a C (some dx)) = upd (upd H dx (exd dx [(f, v)])) a (exo a C (some dx)) := by
    funext b
    by_cases e1 : b = a
    · rw [e1, upd_same, upd_same]
    · rw [upd_ne e1, upd_ne e1]
      by_cases e2 : b = dx
      · rw [e2, upd_same, upd_same]
      · rw [upd_ne e2, upd_ne e2, upd_ne e1]
  rw [e0]
  refine ⟨rfl, dx, [(f, v)], upd_same, by rw [upd_ne ne, upd_same], hd0, ?_⟩
  rw [del_eq (C := C) ha hd0 ne]
  exact h dx hd0
theorem raise0_end {K : PySem.W.Frag} {C : Addr} {H : Hp} {Q : XK} (h : Q (.ref C) none H) :
    ∀ a, H a = none → Sw.spExc0 K C [.ref a] (upd H a (exo a C none)) (fun v H2 => v = .non ∧ H2 a = some (exo a C none) ∧ Q (.ref C) none (del H2 a)) (fun _ _ _ => False) := fun a ha =>
  ⟨a, rfl, upd_same, rfl, upd_same, by rw [del_upd ha]; exact h⟩
end L2
namespace L2
open PySem PySem.Spec PyProof.Rows
section
variable {P : Program} {w : World} {K : PySem.W.Frag} {mg : Str → Option Value} {base : Heap} {N ps : List Str} {k : Nat} {sp : Sp} {x m qual : Str} {st : Stmt} {C : Addr}
/-- as Df.of, for a def that lets nothing out -/
theorem Df.of0 (D : DefAt K mg x st) (h : ∀ (kV doc pm : Value) (an : Option Addr) (cdv ct : Value) (us : List Value), us.length = ps.length → bindArgs (PySem.W.fnOf x x (defArgs st) (defBody st) (defScope st) .none kV doc pm an cdv ct) ⟨us, []⟩ = pure (ps.zip us))
    (S : FnScope N ps (defScope st)) (len : ∀ vs H Q E, sp vs H Q E → vs.length = ps.length)
    (hbody : ∀ (f : Addr) (cdv : Value) (A : Around) (outer : List Env) (s : Shared) (H : Hp) (vs : List V) (Q : VK) (E : XK), Room k (A.deeper (envOfC x (defScope st) s.heap.objs.size f cdv)) → sp vs H Q E →
      ∃ t, PSs (cxOf CX0 P w K mg base N x (defScope st) f cdv A outer s H E).nox (defBody st) t ∧ t { nx := fun _ H' => Q .non H', rt := Q } (start N vs) H) : Df P w K mg base CX0 (k + 1) x ps sp :=
  Df.of D h S len fun f cdv A outer s H vs Q E hr hsp => let ⟨t, a, b⟩ := hbody f cdv A outer s H vs Q E hr hsp; ⟨t, a.nox, b⟩
theorem Dm.of0 (D : MethAt K C m qual st) (h : ∀ (kV doc pm : Value) (an : Option Addr) (cdv ct : Value) (us : List Value), us.length = ps.length → bindArgs (PySem.W.fnOf m qual (defArgs st) (defBody st) (defScope st) .none kV doc pm an cdv ct) ⟨us, []⟩ = pure (ps.zip us))
    (S : FnScope N ps (defScope st)) (len : ∀ vs H Q E, sp vs H Q E → vs.length = ps.length)
    (hbody : ∀ (f : Addr) (cdv : Value) (A : Around) (outer : List Env) (s : Shared) (H : Hp) (vs : List V) (Q : VK) (E : XK), Room k (A.deeper (envOfC qual (defScope st) s.heap.objs.size f cdv)) → sp vs H Q E →
      ∃ t, PSs (cxOf CX0 P w K mg base N qual (defScope st) f cdv A outer s H E).nox (defBody st) t ∧ t { nx := fun _ H' => Q .non H', rt := Q } (start N vs) H) : Dm P w K mg base CX0 (k + 1) C m ps sp :=
  Dm.of D h S len fun f cdv A outer s H vs Q E hr hsp => let ⟨t, a, b⟩ := hbody f cdv A outer s H vs Q E hr hsp; ⟨t, a.nox, b⟩
end
theorem inV_ints (z : Int) (ns : List Int) : inV (.int z) (ns.map V.int) = decide (z ∈ ns) := by
  unfold inV
  rw [List.any_map, Bool.eq_iff_iff, List.any_eq_true, decide_eq_true_eq]
  constructor
  · rintro ⟨y, hy, e⟩
    have e2 : (y == z) = true := e
    rw [← eq_of_beq e2]; exact hy
  · intro h
    exact ⟨z, h, beq_self_eq_true z⟩
theorem cut_take {xs : List V} {i : Nat} (h : i ≤ xs.length) : cutV xs none (some (i : Int)) = xs.take i := by
  unfold cutV
  rw [HT.sIx_none, HT.sIx_nat, Nat.min_eq_left h, List.drop_zero, Nat.sub_zero]
theorem cut_drop {xs : List V} {i : Nat} : cutV xs (some (i : Int)) none = xs.drop i := by
  unfold cutV
  rw [HT.sIx_none, HT.sIx_nat]
  by_cases h : i ≤ xs.length
  · rw [Nat.min_eq_left h, List.take_of_length_le (by rw [List.length_drop]; exact Nat.le_refl _)]
  · rw [Nat.min_eq_right (by omega), Nat.sub_self, List.take_zero, List.drop_eq_nil_of_le (by omega)]
theorem slA_end {H : Hp} {a : Addr} {xs ys : List V} {lo hi : Option Int} {Q : VK} (h : H a = some (.tup xs)) (hc : cutV xs lo hi = ys) (k : ∀ p H', Sw.Frm [] H H' → H' p = some (.tup ys) → Q (.ref p) H') :
    (HT.sIx xs.length 0 lo = 0 ∧ HT.sIx xs.length xs.length hi = xs.length → Q (.ref a) H) ∧ (¬ (HT.sIx xs.length 0 lo = 0 ∧ HT.sIx xs.length xs.length hi = xs.length) → ∀ p, H p = none → Q (.ref p) (upd H p (.tup (cutV xs lo hi)))) := by
  refine ⟨fun w => k a H (.refl H) ?_, fun _ p hp => k p _ (Sw.frm_new hp) ?_⟩
  · rw [h, ← hc]
    unfold cutV
    rw [w.1, w.2, List.drop_zero, Nat.sub_zero, List.take_length]
  · rw [upd_same, hc]
theorem catA_end {H : Hp} {a b : Addr} {xs ys : List V} {Q : VK} (ha : H a = some (.tup xs)) (hb : H b = some (.tup ys)) (k : ∀ p H', Sw.Frm [] H H' → H' p = some (.tup (xs ++ ys)) → Q (.ref p) H') :
    (xs = [] → Q (.ref b) H) ∧ (xs ≠ [] → ys = [] → Q (.ref a) H) ∧ (xs ≠ [] → ys ≠ [] → ∀ p, H p = none → Q (.ref p) (upd H p (.tup (xs ++ ys)))) := by
  refine ⟨fun e => k b H (.refl H) ?_, fun _ e => k a H (.refl H) ?_, fun _ _ p hp => k p _ (Sw.frm_new hp) upd_same⟩
  · rw [hb, e, List.nil_append]
  · rw [ha, e, List.append_nil]
end L2
namespace L2
open PySem PySem.Spec PyProof.Rows
/-- a dict comprehension over a walk -/
theorem dc_it {J : It} {n : Nat} {G : Hp → Prop} {Y : Nat → Hp → V → Hp → Prop} (w : Walk J n G Y) {g : TG} {tt : TT} {tk tv : TE} {vs : List Nat} {σ : St} {H1 : Hp} {D : Addr} {Qd : Hp → Prop} (Pv : Nat → Hp → Prop) (h0 : Pv 0 (upd H1 D (.dK []))) (hG : ∀ i H, i ≤ n → Pv i H → G H)
    (hs : ∀ i x H H', i < n → Pv i H → Y i H x H' → g x (wipe σ vs) H' fun σ2 H2 => wipe σ2 vs = wipe σ vs ∧ tt σ2 H2 fun b H3 =>
      if b = true then tk σ2 H3 fun y H4 => tv σ2 H4 fun z H5 => ∃ kvs k, y = kV k ∧ H5 D = some (.dK kvs) ∧ kvs.length < sizeLine ∧ Pv (i + 1) (upd H5 D (.dK (putK kvs k z))) else Pv (i + 1) H3) (hd : ∀ H, Pv n H → Qd H) :
    ∃ W : Nat → Nat → Hp → Prop, (∃ m, W 0 m (upd H1 D (.dK []))) ∧ ∀ i m H, W i m H →
      (J.stop i H ∧ Qd H) ∨ (J.go i H ∧ ∃ Nx : Hp → Prop, (∀ H', Nx H' → ∃ m', m' < m ∧ W (i + 1) m' H') ∧ ∀ x H', J.yld i H x H' → g x (wipe σ vs) H' fun σ2 H2 => wipe σ2 vs = wipe σ vs ∧ tt σ2 H2 fun b H3 =>
        if b = true then tk σ2 H3 fun y H4 => tv σ2 H4 fun z H5 => ∃ kvs k, y = kV k ∧ H5 D = some (.dK kvs) ∧ kvs.length < sizeLine ∧ Nx (upd H5 D (.dK (putK kvs k z))) else Nx H3) := by
  refine ⟨fun i m H => m = n - i ∧ i ≤ n ∧ Pv i H, ⟨n, by simp, Nat.zero_le _, h0⟩, ?_⟩
  rintro i m H ⟨rfl, hi, p⟩
  have q := hG i H hi p
  by_cases hlt : i < n
  · refine .inr ⟨w.goes i H hlt q, Pv (i + 1), fun H' p' => ⟨n - (i + 1), by omega, rfl, hlt, p'⟩, fun x H' y => hs i x H H' hlt p (w.yields i H x H' hlt q y)⟩
  · have e : i = n := by omega
    subst e
    exact .inl ⟨w.stops H q, hd H p⟩
end L2
namespace L2
open PySem PySem.Spec PyProof.Rows
/-- t[lo:hi], some tuple with these items -/
def rSlE : V → Option Int → Option Int → Hp → VK → Prop := fun x lo hi H Q => ∃ a xs, x = .ref a ∧ H a = some (.tup xs) ∧ ∀ p H', Sw.Frm [] H H' → H' p = some (.tup (cutV xs lo hi)) → Q (.ref p) H'
theorem sl_tupE {X : Cx} : SlR X rSlE := by
  intro pins s σ H x v vl vu lo hi sl Q I rx hs pl pu h
  obtain ⟨a, xs, rfl, hx, k⟩ := h
  exact sl_tupA pins s σ H _ v vl vu lo hi sl Q I rx hs pl pu ⟨a, xs, rfl, SqT.of hx, slA_end hx rfl k⟩
/-- t + u, some tuple with these items -/
def rCatE : R2 := fun x y H Q => ∃ a b xs ys, x = .ref a ∧ y = .ref b ∧ H a = some (.tup xs) ∧ H b = some (.tup ys) ∧ xs.length + ys.length ≤ 100000 ∧ ∀ p H', Sw.Frm [] H H' → H' p = some (.tup (xs ++ ys)) → Q (.ref p) H'
theorem op_catE {X : Cx} : OpR X (binaryOp .Add) rCatE := by
  intro pins s σ H x y v u Q I rx ry h
  obtain ⟨a, b, xs, ys, rfl, rfl, ha, hb, hz, k⟩ := h
  exact op_catA pins s σ H _ _ v u Q I rx ry ⟨a, b, xs, ys, rfl, rfl, SqT.of ha, SqT.of hb, by rw [sizeLine_eq]; omega, catA_end ha hb k⟩
end L2
namespace L2
open PySem PySem.Spec PyProof.Rows
theorem dgetK {H : Hp} {a : Addr} {kvs : List (Key × V)} {k : Key} {v : V} (h : H a = some (.dK kvs)) (hv : valV kvs k = some v) : DGet H a (kV k) (some v) := hv ▸ DGet.k h
theorem dec_nat (i j : Nat) : decide ((i : Int) < (j : Int)) = decide (i < j) := by
  rw [Bool.eq_iff_iff, decide_eq_true_eq, decide_eq_true_eq]
  omega
end L2
set_option maxHeartbeats 4000000
/-! Swaprow: a word between two parts -/
namespace L2
open PySem PySem.Spec PyProof.Rows
section
variable {X : Cx} {st : Stmt} {e : Expr}
/-- what stands behind a statement, in one's own words -/
def tCut (t : TS) : TS := fun D σ H => ∃ N : St → Hp → Prop, t { D with nx := N } σ H ∧ ∀ σ' H', N σ' H' → D.nx σ' H'
theorem ps_cut {t : TS} (h : PS X st t) : PS X st (tCut t) := by
  refine ⟨fun pins s σ H D I hw => ?_⟩
  obtain ⟨N, hw, hn⟩ := hw
  refine thn (h.run pins s σ H { D with nx := N } I hw) fun f s1 q => ?_
  cases f with
  | next =>
    obtain ⟨σ', H', I', q⟩ := q
    exact ⟨σ', H', I', hn _ _ q⟩
  | ret v => exact q
  | brk => exact q
  | cont => exact q
def tCutE (t : TE) : TE := fun σ H Q => ∃ N : VK, t σ H N ∧ ∀ v H', N v H' → Q v H'
theorem pe_cut {t : TE} (h : PE X e t) : PE X e (tCutE t) := by
  refine ⟨fun pins s σ H Q I hw => ?_⟩
  obtain ⟨N, hw, hn⟩ := hw
  exact thn (h.run pins s σ H N I hw) fun f s1 ⟨v, H', I', r, q⟩ => ⟨v, H', I', r, hn _ _ q⟩
def tCutT (t : TT) : TT := fun σ H Q => ∃ N : Bool → Hp → Prop, t σ H N ∧ ∀ v H', N v H' → Q v H'
theorem pt_cut {t : TT} (h : PT X e t) : PT X e (tCutT t) := by
  refine ⟨fun pins s σ H Q I hw => ?_⟩
  obtain ⟨N, hw, hn⟩ := hw
  exact thn (h.run pins s σ H N I hw) fun f s1 ⟨H', I', q⟩ => ⟨H', I', hn _ _ q⟩
end
end L2
set_option maxHeartbeats 4000000
/-! Swaprow: tuples whose object is known: made, cut, joined; t.index -/
namespace L2
open PySem PySem.Spec PyProof.Rows
/-- a tuple whose object is known, with no dict -/
def TFv (H : Hp) (a : Addr) (xs : List V) : Prop := ∃ o : Obj, H a = some (.frz o (.tup xs)) ∧ o.dict = none
theorem TFv.sq {K : PySem.W.Frag} {H : Hp} {a : Addr} {xs : List V} (h : TFv H a xs) : SqT K H a xs := let ⟨o, e, _⟩ := h; .inl (.inr ⟨o, e⟩)
section
variable {X : Cx} {pins : List (Addr × Obj)} {σ : St} {H : Hp} {s : Shared}
/-- a new tuple is laid, its object kept -/
theorem laidF {xs : List V} {us : List Value} {h' : Heap} {Q : VK} {t' : Nat} (I : Inv X pins σ H { s with heap := h' }) (r : Vals xs us) (hz : xs.length ≤ sizeLine) (q : ∀ p H', H p = none → Sw.Frm [] H H' → TFv H' p xs → Q (.ref p) H') :
    EP X pins σ Q (.ref h'.objs.size) { s with heap := h'.push { cls := .type "tuple", data := .seq us.toArray }, toks := t' } := by
  have hf : H h'.objs.size = none := I.hok.fresh (Nat.le_refl _)
  have I2 : Inv X pins σ (upd H h'.objs.size (.frz { cls := .type "tuple", data := .seq us.toArray } (.tup xs))) { s with heap := h'.push { cls := .type "tuple", data := .seq us.toArray }, toks := t' } :=
    I.laid (t' := t') (o := .frz { cls := .type "tuple", data := .seq us.toArray } (.tup xs)) (fun b o e => Heap.get?_push_of_some _ e) (Nat.le_refl _) ⟨Heap.get?_push_size _ rfl, hz, us, r, IsTup.new _ _⟩
  exact ⟨.ref h'.objs.size, _, I2, rfl, q _ _ hf (Sw.frm_new hf) ⟨_, upd_same, rfl⟩⟩
end
section
variable {X : Cx} {e : Expr} {es : List Expr} {te : TE} {t : TA} {pos : Pos}
/-- tuple(a list) -/
def rTupF : List V → Hp → VK → Prop := fun xs H Q => ∃ p ys, xs = [.ref p] ∧ H p = some (.lst ys) ∧ ∀ l H', H l = none → Sw.Frm [] H H' → TFv H' l ys → Q (.ref l) H'
theorem call_tupleF : CallR X (.type "tuple") rTupF := by
  intro pins s σ H xs us Q I r h
  obtain ⟨p, ys, rfl, hq, q⟩ := h
  obtain ⟨u, rfl, rx⟩ := vals1 r
  cases rx
  obtain ⟨its, r', pl, hz⟩ := I.list (.inl (.inl hq))
  have hlen := r'.length
  refine call_tuple_list pl.isList (fun h' kp => ?_) (by simp only [List.size_toArray] <;> omega)
  exact laidF (s := s) (t' := s.toks) (I.kept (t' := s.toks) kp) r' hz q
/-- (a, b) -/
def tTupF (t : TA) : TE := fun σ H Q => t σ H fun vs H1 => vs.length ≤ sizeLine ∧ ∀ p H', H1 p = none → Sw.Frm [] H1 H' → TFv H' p vs → Q (.ref p) H'
theorem pe_tupF {x1} (h : PA X es t) : PE X (.Tuple es x1 pos) (tTupF t) := by
  refine ⟨fun pins s σ H Q I hq => ?_⟩
  refine wpAny_Tuple_spliced (thn (h.run pos pins s σ H _ I hq) fun us s1 ⟨xs, H1, I1, r, z, q⟩ => ⟨by rw [← r.length]; exact z, ?_⟩)
  exact laidF (s := s1) (h' := s1.heap) (t' := s1.toks) I1 r z q
/-- tuple(range(..)) -/
def tTupRgF (te : St → Hp → (Int → Int → Hp → Prop) → Prop) : TE := fun σ H Q => te σ H fun a b H1 => RgOk a b ∧ ∀ p H', H1 p = none → Sw.Frm [] H1 H' → TFv H' p (rgV a b) → Q (.ref p) H'
theorem pe_tupRgF {te : St → Hp → (Int → Int → Hp → Prop) → Prop} {p pos : Pos} (hc : X.calm = true) (hg : Gl X "tuple") (hm : X.mg "tuple" = none) (he : PRg X e te) (na : starEach [e] X.env = (false, eval e X.env) :: starEach [] X.env := by rfl) : PE X (.Call (.Name "tuple" p) [e] [] pos) (tTupRgF te) := by
  refine ⟨fun pins s σ H Q I h => ?_⟩
  refine Call_ (ld_blt I hg hm boot_tuple (PyProof.Rows.callWith_type1 (args_cons (thn (he pins s σ H _ I h) fun x s1 ⟨r, a, b, t, u, v, H1, ex, hr, I1, ok, q⟩ => args_nil ?_) na) na))
  subst ex
  obtain ⟨b1, b2, b3, b4, b5⟩ := ok
  refine call_tuple_range (n := (b - a).toNat) (I1.ok.hd hc) hr (small_one b1 b2 b3 b4) (rangeSize_nat a b) b5 fun h' tk acc hk hi => ?_
  have I2 : Inv X pins σ H1 { s1 with heap := h', toks := tk } := I1.kept hk
  have := laidF (s := { s1 with toks := tk }) (h' := h') (t' := tk) (us := acc.toList) I2 (vals_rg hi) (by rw [rgV_length, sizeLine_eq]; omega) q
  rw [Array.toArray_toList] at this
  exact this
/-- t[::-1] -/
def tRevF (te : TE) : TE := fun σ H Q => te σ H fun x H1 => ∃ a xs, x = .ref a ∧ Rd H1 a (.tup xs) ∧ ∀ p H', H1 p = none → Sw.Frm [] H1 H' → TFv H' p xs.reverse → Q (.ref p) H'
theorem pe_revF {k : Nat} {p1 p2 p3 pos : Pos} (he : PE X e te) : PE X (.Subscript e (.Slice none none (some (.UnaryOp .USub (.Constant (.int 1) k p1) p2)) p3) pos) (tRevF te) := by
  refine ⟨fun pins s σ H Q I h => ?_⟩
  refine Subscript_ (thn (he.run pins s σ H _ I h) fun v s1 ⟨x, H1, I1, r1, q1⟩ => ?_)
  obtain ⟨a, xs, ex, hx, q⟩ := q1
  subst ex
  cases r1
  have hst : PO X (some (.UnaryOp .USub (.Constant (.int 1) k p1) p2)) (tPart (tUn (rU fun i => .int (-i)) (tC (.int 1)))) := po_some (pe_un un_neg pe_int)
  refine wpAny_Slice (thn (po_none.run pins s1 σ H1 (fun o H2 => o = none ∧ H2 = H1) I1 ⟨rfl, rfl⟩) fun vl s2 ⟨l, H2, I2, pl, el, e2⟩ => ?_)
  subst el e2
  refine thn (po_none.run pins s2 σ H2 (fun o H3 => o = none ∧ H3 = H2) I2 ⟨rfl, rfl⟩) fun vu s3 ⟨u, H3, I3, pu, eu, e3⟩ => ?_
  subst eu e3
  refine thn (hst.run pins s3 σ H3 (fun o H4 => o = some (-1) ∧ H4 = H3) I3 ⟨1, rfl, -1, rfl, rfl, rfl⟩) fun vs s4 ⟨o, H4, I4, ps, eo, e4⟩ => ?_
  subst eo e4
  have I5 : Inv X pins σ H4 { s4 with heap := s4.heap.push { cls := .type "slice", data := .fields #[vl, vu, vs] } } := I4.kept (t' := s4.toks) fun b ob q => Heap.get?_push_of_some _ q
  obtain ⟨its, r, ht, hz⟩ := I5.tuple (.inl hx)
  have hlen := r.length
  show wpAny (model X.prog X.w) X.A (subscriptTail e (.Slice none none (some (.UnaryOp .USub (.Constant (.int 1) k p1) p2)) p3) (.ref a) (.ref s4.heap.objs.size)) (EP X pins σ Q) X.xe { s4 with heap := s4.heap.push { cls := .type "slice", data := .fields #[vl, vu, vs] } }
  refine tail_any (ops := [.ref a, .ref s4.heap.objs.size]) ht.typeIs PyProof.Rows.slot_tuple_getitem.lookup ?_ (by with_unfolding_all rfl)
  refine sw_getItem_rev ht (Heap.IsSliceOf.new _ vl vu vs) pl pu ps (by rw [List.size_toArray]; omega) ?_
  exact laidF (s := s4) (t' := s4.toks) I5 r.reverse (by rw [List.length_reverse]; exact hz) q
/-- t[lo:hi] -/
def rSlF : V → Option Int → Option Int → Hp → VK → Prop := fun x lo hi H Q => ∃ a xs, x = .ref a ∧ TFv H a xs ∧ ∀ p H', Sw.Frm [] H H' → TFv H' p (cutV xs lo hi) → Q (.ref p) H'
theorem sl_tupF : SlR X rSlF := by
  intro pins s σ H x v vl vu lo hi sl Q I rx hs pl pu h
  obtain ⟨a, xs, rfl, hx, q⟩ := h
  cases rx
  obtain ⟨its, r, ht, hz⟩ := I.tuple hx.sq
  have hlen : its.toArray.size = xs.length := by rw [List.size_toArray]; exact r.length.symm
  refine ⟨"tuple", _, PyProof.Rows.slot_tuple_getitem.lookup, ht.typeIs, ?_⟩
  by_cases hw : HT.sIx xs.length 0 lo = 0 ∧ HT.sIx xs.length xs.length hi = xs.length
  · refine getItem_tuple_whole ht hs pl pu (by rw [hlen]; exact hw) ⟨.ref a, H, I, rfl, q a H (.refl H) ?_⟩
    have e1 : cutV xs lo hi = xs := by
      unfold cutV
      rw [hw.1, hw.2, List.drop_zero, Nat.sub_zero, List.take_length]
    rw [e1]; exact hx
  · refine HT.getItem_tuple_cut ht hs pl pu (by rw [hlen]; exact hw) ?_ (by rw [hlen]; exact hz)
    rw [hlen]
    exact laidF (s := s) (t' := s.toks) (h' := s.heap) I ((r.drop (HT.sIx xs.length 0 lo)).take (HT.sIx xs.length xs.length hi - HT.sIx xs.length 0 lo)) (Nat.le_trans (cutV_length xs lo hi) hz) fun p H' _ f t => q p H' f t
/-- t + u -/
def rCatF : R2 := fun x y H Q => ∃ a b xs ys, x = .ref a ∧ y = .ref b ∧ TFv H a xs ∧ TFv H b ys ∧ xs.length + ys.length ≤ 100000 ∧ ∀ p H', Sw.Frm [] H H' → TFv H' p (xs ++ ys) → Q (.ref p) H'
theorem op_catF : OpR X (binaryOp .Add) rCatF := by
  intro pins s σ H x y v u Q I rx ry h
  obtain ⟨a, b, xs, ys, rfl, rfl, ha, hb, hz, q⟩ := h
  have hz' : xs.length + ys.length ≤ sizeLine := by rw [sizeLine_eq]; omega
  cases rx
  cases ry
  obtain ⟨its, r1, p1, _⟩ := I.tuple ha.sq
  obtain ⟨its2, r2, p2, _⟩ := I.tuple hb.sq
  by_cases hx : xs = []
  · subst hx
    cases r1
    exact cat_tup0 p1 p2 ⟨.ref b, H, I, rfl, q b H (.refl H) hb⟩
  · refine HT.cat_tup p1 p2 (fun z => hx (r1.nil_iff.mp z)) (fun z => ⟨.ref a, H, I, rfl, q a H (.refl H) ?_⟩) (fun z => ?_) (by rw [← r1.length, ← r2.length]; exact hz')
    · rw [r2.nil_iff.mp z, List.append_nil]; exact ha
    · have e1 : (its.toArray ++ its2.toArray) = (its ++ its2).toArray := by simp
      have := laidF (s := s) (t' := s.toks) (h' := s.heap) (Q := Q) I (r1.append r2) (by rw [List.length_append]; exact hz') fun p H' _ f t => q p H' f t
      first | exact this | (rw [e1]; exact this)
/-- t.index(z), t known with no dict -/
def tTIx (to ta : TE) : TE := fun σ H Q => to σ H fun x H1 => ∃ p, ∃ ys : List Int, x = .ref p ∧ TFv H1 p (ys.map V.int) ∧ ta σ H1 fun y H2 => ∃ z j, y = .int z ∧ TFv H2 p (ys.map V.int) ∧ ys[j]? = some z ∧ (∀ m, m < j → ys[m]? ≠ some z) ∧ Q (.int (j : Nat)) H2
theorem TFv.typ {pins : List (Addr × Obj)} {σ : St} {H : Hp} {s : Shared} {p : Addr} {xs : List V} (I : Inv X pins σ H s) (h : TFv H p xs) : s.TypeIs (.ref p) "tuple" ∧ ∀ a, Value.ref p = .ref a → ∃ ob, s.heap.get? a = some ob ∧ ob.dict = none := by
  obtain ⟨o, e, hd⟩ := h
  obtain ⟨ho, hz, its, r, o2, ho2, hc, _⟩ := I.hok p _ e
  refine ⟨⟨o2, ho2, hc⟩, fun a e2 => ?_⟩
  cases e2
  exact ⟨o, ho, hd⟩
end
section
variable {X : Cx} {o e : Expr} {to ta : TE} {apos cpos : Pos}
theorem pe_tupIx (ho : PE X o to) (ha : PE X e ta) (m : M1 X o "index" apos e cpos) : PE X (.Call (.Attribute o "index" apos) [e] [] cpos) (tTIx to ta) := by
  refine ⟨fun pins s σ H Q I h => ?_⟩
  refine wpAny_Call_method m.base m.few m.line PySem.F.plainAttrs_tuple PySem.F.slot_tuple_index PySem.F.type_tuple_index (thn (ho.run pins s σ H _ I h) fun u s1 ⟨x, H1, I1, rx, p, ys, ex, tf, q1⟩ => ?_)
  subst ex
  obtain rfl : u = Value.ref p := rx
  obtain ⟨t1, t2⟩ := tf.typ I1
  refine ⟨t1, t2, ?_⟩
  rw [m.trees]
  refine Calls.callWith_builtin rfl (Calls.evalArgs_plain (Calls.spliced_cons (thn (ha.run pins s1 σ H1 _ I1 q1) fun iv s2 ⟨y, H2, I2, ry, z, j, ey, tf2, hj, hno, q2⟩ => Calls.spliced_nil ?_)))
  subst ey
  exact mt_tupI pins s2 σ H2 (.ref p) [.int z] (.ref p) [iv] Q I2 rfl (.cons ry .nil) ⟨p, ys, z, j, rfl, rfl, let ⟨o, e, _⟩ := tf2; .inr ⟨o, e⟩, hj, hno, q2⟩
end
end L2
set_option maxHeartbeats 4000000
/-! Swaprow: rankings -/
namespace Sw
open PySem L2
section
variable {P : Program} {w : World} {K : PySem.W.Frag} {mg : Str → Option Value} {base : Heap} {A : Ad}
theorem sc_is_integer : FnScope ["value"] ["value"] (defScope s_is_integer) := ⟨rfl, rfl, rfl, by decide +kernel, rfl, by decide +kernel, by decide +kernel⟩
theorem ok_is_integer (T : Tx K mg A) (D : DefAt K mg "is_integer" s_is_integer) : Df P w K mg base CX0 1 "is_integer" ["value"] spIsInt := by
  refine Df.of D (fun _ _ _ _ _ _ us hl => match us, hl with | [_], _ => rfl) sc_is_integer (fun vs H Q E h => ?_) (fun f cdv A' outer s H vs Q E hr h => ?_)
  · obtain ⟨v, b, rfl, _⟩ := h
    rfl
  · obtain ⟨v, b, rfl, kd, q⟩ := h
    refine ⟨_, pss_one (ps_ret (pe_and (pe_isi (T := "int") T.isinstance (pv 0) T.int (by decide +kernel)) (pe_one (pe_not (pe_isi (T := "bool") T.isinstance (pv 0) T.bool (by decide +kernel)))))), ?_⟩
    cases kd with
    | int z => exact ⟨_, rfl, _, true, rfl, isT_int z, true, rfl, iteT ⟨_, rfl, _, false, rfl, isT_bool z, false, rfl, q⟩⟩
    | bl z => exact ⟨_, rfl, _, true, rfl, isT_int_bl z, true, rfl, iteT ⟨_, rfl, _, true, rfl, isT_bool_bl z, true, rfl, q⟩⟩
    | non => exact ⟨_, rfl, _, false, rfl, isT_int_non, false, rfl, iteF q⟩
    | str z => exact ⟨_, rfl, _, false, rfl, isT_int_str z, false, rfl, iteF q⟩
    | tup h => exact ⟨_, rfl, _, false, rfl, isT_int_tup h, false, rfl, iteF q⟩
    | lst h => exact ⟨_, rfl, _, false, rfl, isT_int_lst h, false, rfl, iteF q⟩
theorem sc_is_number_below : FnScope ["value", "limit"] ["value", "limit"] (defScope s_is_number_below) := ⟨rfl, rfl, rfl, by decide +kernel, rfl, by decide +kernel, by decide +kernel⟩
theorem ok_is_number_below (T : Tx K mg A) (D : DefAt K mg "is_number_below" s_is_number_below) (D1 : Df P w K mg base CX0 1 "is_integer" ["value"] spIsInt) : Df P w K mg base CX0 2 "is_number_below" ["value", "limit"] spBelow := by
  refine Df.of D (fun _ _ _ _ _ _ us hl => match us, hl with | [_, _], _ => rfl) sc_is_number_below (fun vs H Q E h => ?_) (fun f cdv A' outer s H vs Q E hr h => ?_)
  · obtain ⟨v, n, b, rfl, _⟩ := h
    rfl
  · obtain ⟨v, n, b, rfl, kd, q⟩ := h
    refine ⟨_, pss_one (ps_ret (pe_and (pe_df D1 hr pass0 (pa_cons (pv 0) pa_nil)) (pe_one (pe_chain op_le op_lt pe_int (pv 0) (pv 1))))), ?_⟩
    refine ⟨_, rfl, v, b, rfl, kd, b, rfl, ?_⟩
    cases kd with
    | int z =>
      refine iteT ⟨_, rfl, _, _, rfl, rfl, _, rfl, ite2 (fun h => ⟨_, rfl, _, _, rfl, rfl, ?_⟩) (fun h => ?_)⟩
      · have e : bel n (.int z) = decide (z < n) := by show (decide (0 ≤ z) && decide (z < n)) = _; rw [h]; rfl
        rw [e] at q
        exact q
      · have e : bel n (.int z) = false := by
          show (decide (0 ≤ z) && decide (z < n)) = _
          rw [Bool.eq_false_iff.mpr h]; rfl
        rw [e] at q
        exact q
    | bl z => exact iteF q
    | non => exact iteF q
    | str z => exact iteF q
    | tup h => exact iteF q
    | lst h => exact iteF q
/-! is_ranking -/
theorem bel_below (n : Nat) (z : Int) : bel n (.int z) = below n z := rfl
theorem rk_len {ns : List Int} {n : Nat} (h : ns.length ≠ n) : isRk ns n = false := by
  unfold isRk
  rw [decide_eq_false h]
  rfl
theorem rk_all {ns : List Int} {n : Nat} (h : (ns.map fun z => bel n (V.int z)).all id = false) : isRk ns n = false := by
  unfold isRk
  have : ns.all (below n) = false := by
    rw [← h, List.all_map]
    rfl
  rw [this, Bool.false_and, Bool.and_false]
theorem rk_set {ns : List Int} {n c : Nat} (hl : ns.length = n) (h : (ns.map fun z => bel n (V.int z)).all id = true) (hc : decide (c = ns.length) = decide ns.Nodup) : decide (V.int (c : Int) = V.int (n : Int)) = isRk ns n := by
  unfold isRk
  have : ns.all (below n) = true := by
    rw [← h, List.all_map]
    rfl
  rw [this, decide_eq_true hl, Bool.true_and, Bool.true_and, ← hc, hl]
  rw [Bool.eq_iff_iff, decide_eq_true_eq, decide_eq_true_eq]
  constructor
  · intro e
    have := V.int.inj e
    omega
  · intro e
    rw [e]
theorem opt_is {ns : List Int} {n : Nat} : (if isRk ns n = true then some ns else none : Option (List Int)).isSome = isRk ns n := by
  cases isRk ns n <;> rfl
theorem sc_is_ranking : FnScope ["value", "size", "item"] ["value", "size"] (defScope s_is_ranking) := ⟨rfl, rfl, rfl, by decide +kernel, rfl, by decide +kernel, by decide +kernel⟩
theorem ok_is_ranking (T : Tx K mg A) (D : DefAt K mg "is_ranking" s_is_ranking) (D1 : Df P w K mg base CX0 2 "is_number_below" ["value", "limit"] spBelow) : Df P w K mg base CX0 3 "is_ranking" ["value", "size"] spIsRanking := by
  refine Df.of D (fun _ _ _ _ _ _ us hl => match us, hl with | [_, _], _ => rfl) sc_is_ranking (fun vs H Q E h => ?_) (fun f cdv A' outer s H vs Q E hr h => ?_)
  · obtain ⟨v, n, b, rfl, _⟩ := h
    rfl
  · obtain ⟨v, n, o, rfl, hn, rk, q⟩ := h
    refine ⟨_, pss_cons (ps_if (PW.pt (pw_or (pt_not (pt_val (pe_isi (T := "tuple") T.isinstance (pv 0) T.tuple (by decide +kernel))))
        (pw_or (pt_cmpR op_ne (pe_lenR T.len (pv 0)) (pv 1) (nomark _))
        (pw_or1 (pt_not (pt_val (pe_callB (cr_all rfl) (by rfl) T.all (by decide +kernel) (pa_cons
          (pe_lc (own := [("item", 2)]) (g := gName 2) (tt := tYes) rfl sc_is_ranking.nd (pi_tup (pv 0)) (blkOk_by (own := [("item", 2)]) (N := ["value", "size", "item"]) (sc := defScope s_is_ranking) (by decide +kernel))
            (fun _ _ _ _ _ => pg_name (i := 2) sc_is_ranking.nd rfl (Or.inl rfl)) (fun _ _ _ _ _ => pts_nil) (fun _ _ _ _ _ => pe_df D1 hr pass0 (pa_cons (pv 2) (pa_cons (pv 1) pa_nil)))) pa_nil))))))))
        (pss_one (ps_ret pe_bl)) pss_nil)
      (pss_one (ps_ret (pe_cmpR op_eq (pe_lenSetT (by rfl) T.len (by rfl) T.set (pv 0)) (pv 1) (nomark _)))), ?_⟩
    have q0 : o.isSome = false → ∀ H', Frm [] H H' → Q (.bl false) H' := fun e H' f => by
      have := q H' f
      rw [e] at this
      exact this
    cases rk with
    | non => exact ⟨_, rfl, _, false, rfl, isT_tup_non, false, rfl, iteT (q0 rfl H (.refl H))⟩
    | lst h => exact ⟨_, rfl, _, false, rfl, isT_tup_lst h, false, rfl, iteT (q0 rfl H (.refl H))⟩
    | @int a ns h hl =>
      refine ⟨_, rfl, _, true, rfl, isT_tupF h, true, rfl, iteF ⟨_, rfl, a, _, rfl, h.rd, _, rfl, rfl, _, rfl, ?_⟩⟩
      rw [List.length_map]
      by_cases hlen : ns.length = n
      · refine iteNS (by rw [hlen]) ?_
        refine ⟨_, rfl, a, rfl, ⟨_, h.sq⟩, fun d hd => lc_tup (K := K) (a := a) (xs := ns.map V.int) (fun i H' => Frm [] H H' ∧ H' d = some (.lst ((ns.take i).map fun z => V.bl (bel n (.int z)))))
          ⟨frm_new hd, upd_same⟩ (fun i H' _ z => (h.frm z.1).sq) (fun i x H' hx z => ?_) (fun H' z => ?_)⟩
        · obtain ⟨f1, g1⟩ := z
          rw [List.getElem?_map] at hx
          obtain ⟨y, hy, rfl⟩ := Option.map_eq_some_iff.mp hx
          have hil := (List.getElem?_eq_some_iff.mp hy).1
          refine ⟨rfl, _, rfl, _, rfl, _, _, true, rfl, .int y, _, g1, by rw [List.length_map, List.length_take]; exact small1000 (by omega), f1.put (.inl hd) (pl_lst g1), ?_⟩
          rw [upd_same, List.take_add_one, hy, List.map_append]
          rfl
        · obtain ⟨f1, g1⟩ := z
          have e1 : (ns.take (ns.map V.int).length).map (fun z => V.bl (bel n (.int z))) = (ns.map fun z => bel n (V.int z)).map V.bl := by
            rw [List.length_map, List.take_length, List.map_map]
            rfl
          rw [e1] at g1
          refine ⟨d, _, rfl, SqL.of g1, _, rfl, ?_⟩
          cases ha : (ns.map fun z => bel n (V.int z)).all id with
          | false => exact iteT (q0 (by rw [opt_is]; exact rk_all ha) H' f1)
          | true =>
            refine iteF ⟨_, rfl, a, ns, rfl, (h.frm f1).rd, by omega, fun c hc => ⟨_, rfl, rfl, ?_⟩⟩
            rw [rk_set hlen ha hc, ← opt_is]
            exact q H' f1
      · have e2 : (!decide (V.int (ns.length : Int) = V.int (n : Int))) = true := by
          rw [decide_eq_false (fun e => hlen (by have := V.int.inj e; omega))]; rfl
        refine iteP e2 ?_
        exact q0 (by rw [opt_is]; exact rk_len hlen) H (.refl H)
    | @bl a bs h hne hl =>
      refine ⟨_, rfl, _, true, rfl, isT_tup h, true, rfl, iteF ⟨_, rfl, a, _, rfl, .inl h, _, rfl, rfl, _, rfl, ?_⟩⟩
      rw [List.length_map]
      by_cases hlen : bs.length = n
      · refine iteNS (by rw [hlen]) ?_
        refine ⟨_, rfl, a, rfl, ⟨_, SqT.of h⟩, fun d hd => lc_tup (K := K) (a := a) (xs := bs.map V.bl) (fun i H' => Frm [] H H' ∧ H' d = some (.lst ((bs.take i).map fun _ => V.bl false)))
          ⟨frm_new hd, upd_same⟩ (fun i H' _ z => SqT.of (z.1.tp _ _ h)) (fun i x H' hx z => ?_) (fun H' z => ?_)⟩
        · obtain ⟨f1, g1⟩ := z
          rw [List.getElem?_map] at hx
          obtain ⟨y, hy, rfl⟩ := Option.map_eq_some_iff.mp hx
          have hil := (List.getElem?_eq_some_iff.mp hy).1
          refine ⟨rfl, _, rfl, _, rfl, _, _, false, rfl, .bl y, _, g1, by rw [List.length_map, List.length_take]; exact small1000 (by omega), f1.put (.inl hd) (pl_lst g1), ?_⟩
          rw [upd_same, List.take_add_one, hy, List.map_append]
          rfl
        · obtain ⟨f1, g1⟩ := z
          have e1 : (bs.take (bs.map V.bl).length).map (fun _ => V.bl false) = (bs.map fun _ => false).map V.bl := by
            rw [List.length_map, List.take_length, List.map_map]
            rfl
          rw [e1] at g1
          refine ⟨d, _, rfl, SqL.of g1, _, rfl, ?_⟩
          have ha : (bs.map fun _ => false).all id = false := by
            cases bs with
            | nil => exact absurd rfl hne
            | cons b r => rfl
          rw [ha]
          exact iteT (q0 rfl H' f1)
      · have e2 : (!decide (V.int (bs.length : Int) = V.int (n : Int))) = true := by
          rw [decide_eq_false (fun e => hlen (by have := V.int.inj e; omega))]; rfl
        refine iteP e2 ?_
        exact q0 rfl H (.refl H)
end
end Sw
set_option maxHeartbeats 4000000
/-! Swaprow: checks, tables -/
namespace Sw
open PySem L2
section
variable {P : Program} {w : World} {K : PySem.W.Frag} {mg : Str → Option Value} {base : Heap} {A : Ad}
theorem TT.at {H : Hp} {r : Addr} {R : List (List Int)} (h : TT H r R) : ∃ ps, H r = some (.tup ps) ∧ ps.length = R.length ∧ ∀ (i : Nat) x, ps[i]? = some x → ∃ a ns, R[i]? = some ns ∧ x = .ref a ∧ TF H a ns := by
  obtain ⟨ps, e, p⟩ := h
  refine ⟨ps, e, pd_len p, fun i x hx => ?_⟩
  obtain ⟨ns, h1, a, h2, h3⟩ := pd_get' p hx
  exact ⟨a, ns, h1, h2, h3⟩
theorem rk_perm {ns : List Int} {n : Nat} (h : PermN ns n) : (if isRk ns n = true then some ns else none : Option (List Int)).isSome = true := by
  rw [isRk_iff.mpr h]; rfl
theorem sc_check_rankings : FnScope ["value", "person", "ranking"] ["value"] (defScope s_check_rankings) := ⟨rfl, rfl, rfl, by decide +kernel, rfl, by decide +kernel, by decide +kernel⟩
theorem ok_check_rankings (T : Tx K mg A) (D : DefAt K mg "check_rankings" s_check_rankings) (D1 : Df P w K mg base CX0 3 "is_ranking" ["value", "size"] spIsRanking) : Df P w K mg base CX0 4 "check_rankings" ["value"] spCheckRankings := by
  refine Df.of0 D (fun _ _ _ _ _ _ us hl => match us, hl with | [_], _ => rfl) sc_check_rankings (fun vs H Q E h => ?_) (fun f cdv A' outer s H vs Q E hr h => ?_)
  · obtain ⟨r, R, rfl, _⟩ := h
    rfl
  · obtain ⟨r, R, rfl, hT, h1, h40, hp, q⟩ := h
    obtain ⟨t, mx⟩ := T.maxP
    obtain ⟨ps, e, el, hat⟩ := hT.at
    have nd := sc_check_rankings.nd
    refine ⟨_, pss_cons (ps_if (PW.pt (pw_or (pt_not (pt_val (pe_isi (T := "tuple") T.isinstance (pv 0) T.tuple (by decide +kernel)))) (pw_or1 (pt_not (pt_chain op_le op_le pe_int (pe_len T.len (pv 0)) (pe_glob (v := .int 40) rfl mx ⟨_, rfl⟩))))))
        (pss_one ps_never) pss_nil)
      (pss_one (ps_for PassesOwn.never rfl (pi_enumT (by rfl) T.enumerate (pa_cons (pv 0) pa_nil)) (pg_tup rfl (pgs_cons (pg_name (i := 1) nd rfl (.inl rfl)) (pgs_cons (pg_name (i := 2) nd rfl (.inl rfl)) pgs_nil)))
        (pss_one (ps_if (pt_not (pt_val (pe_df D1 hr pass0 (pa_cons (pv 2) (pa_cons (pe_len T.len (pv 0)) pa_nil))))) (pss_one ps_never) pss_nil)))), ?_⟩
    refine ⟨_, rfl, _, true, rfl, isT_tup e, true, rfl, iteF ⟨_, rfl, r, ps, rfl, .inr e, _, _, rfl, rfl, _, rfl, iteP (by rw [decide_eq_true_eq, el]; omega) ⟨_, _, rfl, rfl, _, rfl, ?_⟩⟩⟩
    refine iteN (by rw [decide_eq_true (show (ps.length : Int) ≤ 40 by omega)]; simp) ?_
    refine ⟨_, rfl, r, ps, rfl, .inl e, for_it (walk_enumT (a := r) (xs := ps)) (fun i σ H' => Frm [] H H' ∧ ∃ u v : Option V, σ = [some (.ref r), u, v]) ⟨.refl H, none, none, rfl⟩ (fun i σ H' _ z => .inl (z.1.tp _ _ e)) (fun i x σ H1 H2 hi z y => ?_) (fun σ H' z => q H' z.1)⟩
    obtain ⟨f1, u, v, rfl⟩ := z
    obtain ⟨T1, x1, y1, rfl, hn, rfl, ex, ey⟩ := y
    obtain rfl : V.int (i : Nat) = x1 := Option.some.inj ex
    obtain ⟨a, ns, hR, rfl, hI⟩ := hat i y1 ey
    have f2 := f1.new (o := .tup [.int (i : Nat), .ref a]) hn
    refine ⟨T1, _, rfl, SqT.of upd_same, rfl, _, _, rfl, _, _, rfl, rfl, ?_⟩
    have hm := hp ns (List.mem_of_getElem? hR)
    refine ⟨_, rfl, _, rfl, r, ps, rfl, .inr (f2.tp _ _ e), .ref a, ps.length, _, rfl, by omega, .int (hI.frm f2) (by rw [hm.1]; omega), fun H' f3 => ?_⟩
    rw [el, rk_perm hm]
    exact ⟨true, rfl, iteF ⟨f2.tr f3, _, _, rfl⟩⟩
theorem sc_check_person : FnScope ["rankings", "person"] ["rankings", "person"] (defScope s_check_person) := ⟨rfl, rfl, rfl, by decide +kernel, rfl, by decide +kernel, by decide +kernel⟩
theorem ok_check_person (T : Tx K mg A) (D : DefAt K mg "check_person" s_check_person) (D1 : Df P w K mg base CX0 2 "is_number_below" ["value", "limit"] spBelow) (DP : ExDef P w K mg base CX0 1 A.eP ["self", "value"] (spExc1 K A.eP "value")) :
    Df P w K mg base (L2.CX P w) 3 "check_person" ["rankings", "person"] (spCheckPerson A) := by
  refine Df.of D (fun _ _ _ _ _ _ us hl => match us, hl with | [_, _], _ => rfl) sc_check_person (fun vs H Q E h => ?_) (fun f cdv A' outer s H vs Q E hr h => ?_)
  · obtain ⟨r, R, v, b, rfl, _⟩ := h
    rfl
  · obtain ⟨r, R, v, b, rfl, hT, kd, q1, q2⟩ := h
    obtain ⟨ps, e, el, hat⟩ := hT.at
    refine ⟨_, pss_one (ps_if (pt_not (pt_val (pe_df D1 hr pass0 (pa_cons (pv 1) (pa_cons (pe_len T.len (pv 0)) pa_nil))))) (pss_one (ps_raise1 T.exP.oex DP hr T.mgP (takes_of rfl rfl rfl rfl) (pa_cons (pv 1) pa_nil))) pss_nil), ?_⟩
    refine ⟨_, rfl, _, rfl, r, ps, rfl, .inr e, v, _, b, rfl, kd, _, rfl, ?_⟩
    rw [el]
    cases hb : bel R.length v with
    | true => exact iteF (q1 hb)
    | false => exact iteT ⟨_, rfl, raise1_end fun d hd => q2 hb d hd⟩
theorem sc_rank_tables : FnScope ["rankings", "place", "item", "ranking"] ["rankings"] (defScope s_rank_tables) := ⟨rfl, rfl, rfl, by decide +kernel, rfl, by decide +kernel, by decide +kernel⟩
/-- a table of the first i items -/
def tab (ns : List Int) (i : Nat) : List (Key × V) := (List.range i).map fun j => (Sum.inl (ns.getD j 0), V.int (j : Nat))
theorem tab_succ {ns : List Int} {i : Nat} {z : Int} (h : ns[i]? = some z) : tab ns (i + 1) = tab ns i ++ [(Sum.inl z, V.int (i : Nat))] := by
  unfold tab
  rw [List.range_succ, List.map_append, List.map_singleton, List.getD_eq_getElem?_getD, h]
  rfl
theorem valV_app {l m : List (Key × V)} {k : Key} : valV (l ++ m) k = (valV l k).or (valV m k) := by
  unfold valV
  rw [List.find?_append]
  cases l.find? (fun kv => decide (kv.1 = k)) <;> simp
theorem tab_none {ns : List Int} (hd : ns.Nodup) {z : Int} : ∀ {i : Nat}, ns[i]? = some z → ∀ n ≤ i, valV (tab ns n) (Sum.inl z : Key) = none := by
  intro i hz n hn
  unfold valV
  have : (tab ns n).find? (fun kv => decide (kv.1 = (Sum.inl z : Key))) = none := by
    rw [List.find?_eq_none]
    intro kv hkv
    unfold tab at hkv
    obtain ⟨j, hj, rfl⟩ := List.mem_map.mp hkv
    have hj' := List.mem_range.mp hj
    intro e
    have e1 : (Sum.inl (ns.getD j 0) : Key) = Sum.inl z := of_decide_eq_true e
    have e2 : ns.getD j 0 = z := Sum.inl.inj e1
    have hjl : j < ns.length := by
      have := (List.getElem?_eq_some_iff.mp hz).1
      omega
    have e3 : ns[j]? = some z := by
      rw [← e2, List.getD_eq_getElem?_getD, List.getElem?_eq_getElem hjl]
      rfl
    have := nodup_ix hd e3 hz
    omega
  rw [this]
  rfl
theorem tab_val {ns : List Int} (hd : ns.Nodup) {z : Int} {i : Nat} (hz : ns[i]? = some z) : ∀ n, i < n → n ≤ ns.length → valV (tab ns n) (Sum.inl z : Key) = some (.int (i : Nat))
  | 0, h, _ => absurd h (Nat.not_lt_zero _)
  | n + 1, h, hn => by
    have hlt : n < ns.length := hn
    rw [tab_succ (List.getElem?_eq_getElem hlt), valV_app]
    by_cases e : i = n
    · subst e
      rw [tab_none hd hz i (Nat.le_refl _)]
      rw [List.getElem?_eq_getElem hlt] at hz
      rw [Option.some.inj hz]
      simp [valV]
    · rw [tab_val hd hz n (by omega) (by omega)]
      rfl
theorem tab_len (ns : List Int) (i : Nat) : (tab ns i).length = i := by unfold tab; rw [List.length_map, List.length_range]
/-- one table -/
def TbR (H : Hp) (v : V) (ns : List Int) : Prop := ∃ d kvs, v = V.ref d ∧ H d = some (.dK kvs) ∧ ∀ z ∈ ns, valV kvs (Sum.inl z : Key) = some (.int (ixo ns z))
theorem ok_rank_tables (T : Tx K mg A) (D : DefAt K mg "rank_tables" s_rank_tables) : Df P w K mg base CX0 1 "rank_tables" ["rankings"] spTables := by
  refine Df.of0 D (fun _ _ _ _ _ _ us hl => match us, hl with | [_], _ => rfl) sc_rank_tables (fun vs H Q E h => ?_) (fun f cdv A' outer s H vs Q E hr h => ?_)
  · obtain ⟨r, R, rfl, _⟩ := h
    rfl
  · obtain ⟨r, R, rfl, hT, h100, hR, q⟩ := h
    have nd := sc_rank_tables.nd
    refine ⟨_, pss_one (ps_ret (pe_lc (own := [("ranking", 3)]) (g := gName 3) (tt := tYes) rfl nd (pi_tup (pv 0)) (blkOk_by (own := [("ranking", 3)]) (N := ["rankings", "place", "item", "ranking"]) (sc := defScope s_rank_tables) (by decide +kernel))
      (fun _ _ _ _ _ => pg_name (i := 3) nd rfl (Or.inl rfl)) (fun _ _ _ _ _ => pts_nil)
      (fun _ _ _ _ _ => pe_dc (own := [("place", 1), ("item", 2)]) (g := gTup K 2 (gCons (gName 1) (gCons (gName 2) gNil))) (tt := tYes) rfl nd (pi_enumT (by rfl) T.enumerate (pa_cons (pv 3) pa_nil)) (blkOk_by (own := [("place", 1), ("item", 2)]) (N := ["rankings", "place", "item", "ranking"]) (sc := relS { kind := .function, names := [(".0", .local), ("ranking", .local), ("enumerate", .globalImplicit)], isGenerator := false, isCoroutine := false } (defScope s_rank_tables)) (by decide +kernel))
        (fun _ _ _ _ _ => pg_tup rfl (pgs_cons (pg_name (i := 1) nd rfl (Or.inl rfl)) (pgs_cons (pg_name (i := 2) nd rfl (Or.inl rfl)) pgs_nil))) (fun _ _ _ _ _ => pts_nil) (fun _ _ _ _ _ => pv 2) (fun _ _ _ _ _ => pv 1)))), ?_⟩
    obtain ⟨ps, e, el, hat⟩ := hT.at
    refine ⟨_, rfl, r, rfl, ⟨_, SqT.of e⟩, fun D hD => lc_tup (K := K) (a := r) (xs := ps) (fun i H' => Frm [] H H' ∧ ∃ ds, H' D = some (.lst ds) ∧ Paired (TbR H') ds (R.take i)) ⟨frm_new hD, [], upd_same, .nil⟩ (fun i H' _ z => SqT.of (z.1.tp _ _ e)) (fun i x H1 hx z => ?_) (fun H' z => ?_)⟩
    · obtain ⟨f1, ds, g1, pd⟩ := z
      obtain ⟨a, ns, hR1, rfl, hI⟩ := hat i x hx
      obtain ⟨hnd, hnl⟩ := hR ns (List.mem_of_getElem? hR1)
      have hil := (List.getElem?_eq_some_iff.mp hx).1
      refine ⟨rfl, _, rfl, a, _, rfl, (hI.frm f1).rd, fun D2 hD2 => dc_it (walk_enumT (a := a) (xs := ns.map V.int)) (fun j H' => Frm [] H1 H' ∧ H' D2 = some (.dK (tab ns j))) ⟨frm_new hD2, upd_same⟩ (fun j H' _ z => ((hI.frm f1).frm z.1).rd) (fun j x H2 H3 hj z y => ?_) (fun H' z => ?_)⟩
      · obtain ⟨f2, g2⟩ := z
        obtain ⟨T1, x1, y1, rfl, hn, rfl, ex, ey⟩ := y
        obtain rfl : V.int (j : Nat) = x1 := Option.some.inj ex
        replace ey : (ns.map V.int)[j]? = some y1 := ey
        rw [List.getElem?_map] at ey
        obtain ⟨z, hz, rfl⟩ := Option.map_eq_some_iff.mp ey
        have hjl := (List.getElem?_eq_some_iff.mp hz).1
        have nT : D2 ≠ T1 := ne_of_none g2 hn
        have g3 : (upd H2 T1 (.tup [.int (j : Nat), .int z])) D2 = some (.dK (tab ns j)) := by rw [upd_ne nT]; exact g2
        refine ⟨T1, _, rfl, SqT.of upd_same, rfl, _, _, rfl, _, _, rfl, rfl, rfl, _, rfl, _, rfl, _, Sum.inl z, rfl, g3, by rw [tab_len]; exact small1000 (by omega), ((f2.new hn).put (.inl hD2) (pl_dk g3)), ?_⟩
        rw [upd_same, putK_new _ (tab_none hnd hz j (Nat.le_refl _)), tab_succ hz]
      · obtain ⟨f2, g2⟩ := z
        have g3 : H' D = some (.lst ds) := f2.lst g1 (fun z => nomatch z)
        have f3 := f1.tr f2
        refine ⟨ds, g3, by rw [pd_len pd, List.length_take]; exact small1000 (by omega), f3.put (.inl hD) (pl_lst g3), ds ++ [.ref D2], upd_same, ?_⟩
        rw [List.take_add_one, hR1]
        have nD : ∀ d kvs, H' d = some (.dK kvs) → (upd H' D (.lst (ds ++ [.ref D2]))) d = some (.dK kvs) := fun d kvs h => by
          rw [upd_ne (ne_of h g3 (fun z => nomatch z))]; exact h
        refine pd_app (Paired.mapP pd fun v ns' h => ?_) (.cons ⟨D2, _, rfl, nD _ _ g2, fun z hz => ?_⟩ .nil)
        · obtain ⟨d, kvs, e1, e2, e3⟩ := h
          exact ⟨d, kvs, e1, nD _ _ (f2.dk e2 (fun z => nomatch z)), e3⟩
        · rw [List.length_map]
          exact tab_val hnd (ixo_get hz) _ (ixo_lt hz) (Nat.le_refl _)
    · obtain ⟨f1, ds, g1, pd⟩ := z
      rw [el, List.take_length] at pd
      exact q D H' f1 ⟨ds, g1, pd⟩
theorem sc_check_arrangement : FnScope ["value", "position", "item"] ["value"] (defScope s_check_arrangement) := ⟨rfl, rfl, rfl, by decide +kernel, rfl, by decide +kernel, by decide +kernel⟩
theorem ok_check_arrangement (T : Tx K mg A) (D : DefAt K mg "check_arrangement" s_check_arrangement) (D1 : Df P w K mg base CX0 2 "is_number_below" ["value", "limit"] spBelow) : Df P w K mg base CX0 3 "check_arrangement" ["value"] spCheckArr := by
  refine Df.of0 D (fun _ _ _ _ _ _ us hl => match us, hl with | [_], _ => rfl) sc_check_arrangement (fun vs H Q E h => ?_) (fun f cdv A' outer s H vs Q E hr h => ?_)
  · obtain ⟨r, R, rfl, _⟩ := h
    rfl
  · obtain ⟨a, ns, rfl, e, h1, h40, hp, q⟩ := h
    obtain ⟨t, mx⟩ := T.maxP
    have nd := sc_check_arrangement.nd
    have el : (ns.map V.int).length = ns.length := List.length_map ..
    refine ⟨_, pss_cons (ps_if (PW.pt (pw_or (pt_not (pt_val (pe_isi (T := "tuple") T.isinstance (pv 0) T.tuple (by decide +kernel)))) (pw_or1 (pt_not (pt_chain op_le op_le pe_int (pe_len T.len (pv 0)) (pe_glob (v := .int 40) rfl mx ⟨_, rfl⟩))))))
        (pss_one ps_never) pss_nil)
      (pss_one (ps_for PassesOwn.never rfl (pi_enumT (by rfl) T.enumerate (pa_cons (pv 0) pa_nil)) (pg_tup rfl (pgs_cons (pg_name (i := 1) nd rfl (.inl rfl)) (pgs_cons (pg_name (i := 2) nd rfl (.inl rfl)) pgs_nil)))
        (pss_one (ps_if (PW.pt (pw_or (pt_not (pt_val (pe_df D1 hr pass0 (pa_cons (pv 2) (pa_cons (pe_len T.len (pv 0)) pa_nil))))) (pw_or1 (pt_cmpR op_in_seq (pv 2) (pe_slice sl_tupE (pv 0) po_none (po_some (pv 1))) (by rfl))))) (pss_one ps_never) pss_nil)))), ?_⟩
    refine ⟨_, rfl, _, true, rfl, isT_tup e, true, rfl, iteF ⟨_, rfl, a, _, rfl, .inr e, _, _, rfl, rfl, _, rfl, iteP (by rw [decide_eq_true_eq, el]; omega) ⟨_, _, rfl, rfl, _, rfl, ?_⟩⟩⟩
    refine iteN (by rw [decide_eq_true (show ((ns.map V.int).length : Int) ≤ 40 by rw [el]; omega)]; simp) ?_
    refine ⟨_, rfl, a, _, rfl, .inl e, for_it (walk_enumT (a := a) (xs := ns.map V.int)) (fun i σ H' => Frm [] H H' ∧ ∃ u v : Option V, σ = [some (.ref a), u, v]) ⟨.refl H, none, none, rfl⟩ (fun i σ H' _ z => .inl (z.1.tp _ _ e)) (fun i x σ H1 H2 hi z y => ?_) (fun σ H' z => q H' z.1)⟩
    obtain ⟨f1, u, v, rfl⟩ := z
    obtain ⟨T1, x1, y1, rfl, hn, rfl, ex, ey⟩ := y
    obtain rfl : V.int (i : Nat) = x1 := Option.some.inj ex
    replace ey : (ns.map V.int)[i]? = some y1 := ey
    rw [List.getElem?_map] at ey
    obtain ⟨z, hz, rfl⟩ := Option.map_eq_some_iff.mp ey
    have f2 := f1.new (o := .tup [.int (i : Nat), .int z]) hn
    refine ⟨T1, _, rfl, SqT.of upd_same, rfl, _, _, rfl, _, _, rfl, rfl, ?_⟩
    have hm := (hp.2.2 z).mp (List.mem_of_getElem? hz)
    have e2 := f2.tp _ _ e
    have hb : bel ((ns.map V.int).length : Nat) (.int z) = true := by
      show (decide (0 ≤ z) && decide (z < (((ns.map V.int).length : Nat) : Int))) = true
      rw [el, decide_eq_true hm.1, decide_eq_true hm.2]; rfl
    refine ⟨_, rfl, _, rfl, a, _, rfl, .inr e2, .int z, _, true, rfl, .int z, _, rfl, ?_⟩
    rw [hb]
    refine iteF ⟨_, rfl, _, rfl, _, rfl, _, rfl, a, _, rfl, e2, fun p H' f3 hp' => ?_⟩
    rw [cut_take (by omega), ← List.map_take] at hp'
    refine ⟨p, _, rfl, .inr (SqT.of hp'), rfl, flat_ints _, _, rfl, ?_⟩
    have hno : inV (.int z) ((ns.take i).map V.int) = false := by
      rw [inV_ints, decide_eq_false]
      intro hin
      obtain ⟨j, hj⟩ := List.mem_iff_getElem?.mp hin
      rw [List.getElem?_take] at hj
      by_cases hji : j < i
      · rw [if_pos hji] at hj
        have := nodup_ix hp.2.1 hj hz
        omega
      · rw [if_neg hji] at hj
        cases hj
    show if (if false = true then !inV (V.int z) ((ns.take i).map V.int) else inV (V.int z) ((ns.take i).map V.int)) = true then _ else _
    rw [hno]
    exact iteF ⟨f2.tr f3, _, _, rfl⟩
theorem sc_check_fitting : FnScope ["rankings", "arrangement"] ["rankings", "arrangement"] (defScope s_check_fitting) := ⟨rfl, rfl, rfl, by decide +kernel, rfl, by decide +kernel, by decide +kernel⟩
theorem ok_check_fitting (T : Tx K mg A) (D : DefAt K mg "check_fitting" s_check_fitting) (D1 : Df P w K mg base CX0 4 "check_rankings" ["value"] spCheckRankings) (D2 : Df P w K mg base CX0 3 "check_arrangement" ["value"] spCheckArr) : Df P w K mg base CX0 5 "check_fitting" ["rankings", "arrangement"] spCheckFit := by
  refine Df.of0 D (fun _ _ _ _ _ _ us hl => match us, hl with | [_, _], _ => rfl) sc_check_fitting (fun vs H Q E h => ?_) (fun f cdv A' outer s H vs Q E hr h => ?_)
  · obtain ⟨r, a, n, x, rfl, _⟩ := h
    rfl
  · obtain ⟨r, a, n, x, rfl, hT, hI, h1, h40, v, q⟩ := h
    refine ⟨_, pss_cons (ps_expr (pe_df D1 hr pass0 (pa_cons (pv 0) pa_nil))) (pss_cons (ps_expr (pe_df D2 (hr.mono (by decide)) pass0 (pa_cons (pv 1) pa_nil)))
      (pss_one (ps_if (pt_cmpR op_ne (pe_len T.len (pv 1)) (pe_len T.len (pv 0)) (nomark _)) (pss_one ps_never) pss_nil))), ?_⟩
    refine ⟨_, rfl, r, x.1, rfl, hT, by rw [v.lR]; exact h1, by rw [v.lR]; exact h40, by rw [v.lR]; exact v.pR, fun H1 f1 => ?_⟩
    refine ⟨_, rfl, a, x.2, rfl, hI.frm f1, by rw [v.pA.1]; exact h1, by rw [v.pA.1]; exact h40, by rw [v.pA.1]; exact v.pA, fun H2 f2 => ?_⟩
    have f := f1.tr f2
    obtain ⟨ps, e, el, _⟩ := (hT.frm f).at
    refine ⟨_, rfl, a, _, rfl, .inr (hI.frm f), _, rfl, r, ps, rfl, .inr e, rfl, _, rfl, iteNS ?_ (q H2 f)⟩
    rw [List.length_map, el, v.pA.1, v.lR]
end
end Sw
set_option maxHeartbeats 4000000
/-! Swaprow: swaps -/
namespace Sw
open PySem L2
theorem getD_of {A : List Int} {i : Nat} {z : Int} (h : A[i]? = some z) : A.getD i 0 = z := by rw [List.getD_eq_getElem?_getD, h]; rfl
theorem ex_at {A : List Int} {i : Nat} (h : i < A.length) : A[i]? = some (A.getD i 0) := by rw [List.getD_eq_getElem?_getD, List.getElem?_eq_getElem h]; rfl
theorem vat {A : List Int} {i : Nat} {z : Int} (h : A[i]? = some z) : (A.map V.int)[i]? = some (.int z) := by rw [List.getElem?_map, h]; rfl
section
variable {P : Program} {w : World} {K : PySem.W.Frag} {mg : Str → Option Value} {base : Heap} {A : Ad}
theorem sc_is_allowed_there : FnScope ["tables", "arrangement", "swap", "own", "other"] ["tables", "arrangement", "swap"] (defScope s_is_allowed_there) := ⟨rfl, rfl, rfl, by decide +kernel, rfl, by decide +kernel, by decide +kernel⟩
theorem ok_is_allowed_there (T : Tx K mg A) (D : DefAt K mg "is_allowed_there" s_is_allowed_there) : Df P w K mg base CX0 2 "is_allowed_there" ["tables", "arrangement", "swap"] spAllowedThere := by
  refine Df.of0 D (fun _ _ _ _ _ _ us hl => match us, hl with | [_, _, _], _ => rfl) sc_is_allowed_there (fun vs H Q E h => ?_) (fun f cdv A' outer s H vs Q E hr h => ?_)
  · obtain ⟨p, a, n, i, x, rfl, _⟩ := h
    rfl
  · obtain ⟨p, a, n, i, x, rfl, hT, hI, v, hi, q⟩ := h
    obtain ⟨R, Ar⟩ := x
    obtain ⟨ds, hp, pd⟩ := hT
    have hu := hu_of hr
    have nd := sc_is_allowed_there.nd
    refine ⟨_, pss_cons (ps_par (i := 3) (j := 4) (by rfl) nd rfl rfl (by decide) rfl rfl (pa_cons (pe_ix ix_tup (pv 1) (pv 2) (fun _ _ => rfl)) (pa_cons (pe_ix ix_tup (pv 1) (pe_op op_add (pv 2) pe_int) (fun _ _ => rfl)) pa_nil)) (by rfl))
      (pss_one (ps_ret (pe_and (pe_cmpR op_lt (pe_dget hu (pe_ix ix_list (pv 0) (pv 2) (fun _ _ => rfl)) (pv 4) (fun _ _ => rfl)) (pe_dget hu (pe_ix ix_list (pv 0) (pv 2) (fun _ _ => rfl)) (pv 3) (fun _ _ => rfl)) (nomark _))
        (pe_one (pe_cmpR op_lt (pe_dget hu (pe_ix ix_list (pv 0) (pe_op op_add (pv 2) pe_int) (fun _ _ => rfl)) (pv 3) (fun _ _ => rfl)) (pe_dget hu (pe_ix ix_list (pv 0) (pe_op op_add (pv 2) pe_int) (fun _ _ => rfl)) (pv 4) (fun _ _ => rfl)) (nomark _)))))), ?_⟩
    have hA : Ar.length = n := v.pA.1
    have hR : R.length = n := v.lR
    have e1 := ex_at (A := Ar) (i := i) (by omega)
    have e2 := ex_at (A := Ar) (i := i + 1) (by omega)
    have r1 : R[i]? = some R[i] := List.getElem?_eq_getElem (by omega)
    have r2 : R[i + 1]? = some R[i + 1] := List.getElem?_eq_getElem (by omega)
    have p1 := v.pR _ (List.mem_of_getElem? r1)
    have p2 := v.pR _ (List.mem_of_getElem? r2)
    have m1 := (v.pA.2.2 _).mp (List.mem_of_getElem? e1)
    have m2 := (v.pA.2.2 _).mp (List.mem_of_getElem? e2)
    obtain ⟨v1, g1, d1, k1, rfl, h1, t1⟩ := pd_get pd r1
    obtain ⟨v2, g2, d2, k2, rfl, h2, t2⟩ := pd_get pd r2
    refine ⟨_, rfl, _, rfl, a, _, _, _, rfl, rfl, SqT.of hI, atI_nat (vat e1), _, rfl, _, rfl, _, _, rfl, rfl, a, _, _, _, rfl, rfl, SqT.of hI, at_of (j := i + 1) (by omega) (vat e2), _, _, rfl, ?_⟩
    refine ⟨_, rfl, _, rfl, p, _, _, _, rfl, rfl, SqL.of hp, atI_nat g1, _, rfl, d1, _, rfl, dgetK (k := Sum.inl (Ar.getD (i + 1) 0)) h1 (t1 _ ((p1.2.2 _).mpr m2)), ?_⟩
    refine ⟨_, rfl, _, rfl, p, _, _, _, rfl, rfl, SqL.of hp, atI_nat g1, _, rfl, d1, _, rfl, dgetK (k := Sum.inl (Ar.getD i 0)) h1 (t1 _ ((p1.2.2 _).mpr m1)), _, _, rfl, rfl, _, rfl, ?_⟩
    have q' : Q (V.bl (pref R i (Ar.getD (i + 1) 0) (Ar.getD i 0) && pref R (i + 1) (Ar.getD i 0) (Ar.getD (i + 1) 0))) H := q
    have c1 : pref R i (Ar.getD (i + 1) 0) (Ar.getD i 0) = decide ((ixo R[i] (Ar.getD (i + 1) 0) : Int) < (ixo R[i] (Ar.getD i 0) : Int)) := by
      unfold pref
      rw [List.getD_eq_getElem?_getD, r1, dec_nat]
      rfl
    have c2 : pref R (i + 1) (Ar.getD i 0) (Ar.getD (i + 1) 0) = decide ((ixo R[i + 1] (Ar.getD i 0) : Int) < (ixo R[i + 1] (Ar.getD (i + 1) 0) : Int)) := by
      unfold pref
      rw [List.getD_eq_getElem?_getD, r2, dec_nat]
      rfl
    rw [c1, c2] at q'
    refine iteB (fun hb => ?_) (fun hb => ?_)
    · rw [hb] at q'
      refine ⟨_, rfl, _, rfl, _, _, rfl, rfl, p, _, _, _, rfl, rfl, SqL.of hp, at_of (j := i + 1) (by omega) g2, _, rfl, d2, _, rfl, dgetK (k := Sum.inl (Ar.getD i 0)) h2 (t2 _ ((p2.2.2 _).mpr m1)), ?_⟩
      exact ⟨_, rfl, _, rfl, _, _, rfl, rfl, p, _, _, _, rfl, rfl, SqL.of hp, at_of (j := i + 1) (by omega) g2, _, rfl, d2, _, rfl, dgetK (k := Sum.inl (Ar.getD (i + 1) 0)) h2 (t2 _ ((p2.2.2 _).mpr m2)), _, _, rfl, rfl, q'⟩
    · rw [hb] at q'
      exact q'
theorem sc_allowed_swaps : FnScope ["rankings", "arrangement", "tables", "swap"] ["rankings", "arrangement"] (defScope s_allowed_swaps) := ⟨rfl, rfl, rfl, by decide +kernel, rfl, by decide +kernel, by decide +kernel⟩
theorem ok_allowed_swaps (T : Tx K mg A) (D : DefAt K mg "allowed_swaps" s_allowed_swaps) (D1 : Df P w K mg base CX0 5 "check_fitting" ["rankings", "arrangement"] spCheckFit) (D2 : Df P w K mg base CX0 1 "rank_tables" ["rankings"] spTables)
    (D3 : Df P w K mg base CX0 2 "is_allowed_there" ["tables", "arrangement", "swap"] spAllowedThere) : Df P w K mg base CX0 6 "allowed_swaps" ["rankings", "arrangement"] spAllowed := by
  refine Df.of0 D (fun _ _ _ _ _ _ us hl => match us, hl with | [_, _], _ => rfl) sc_allowed_swaps (fun vs H Q E h => ?_) (fun f cdv A' outer s H vs Q E hr h => ?_)
  · obtain ⟨r, a, n, x, rfl, _⟩ := h
    rfl
  · obtain ⟨r, a, n, x, rfl, hT, hI, h1, h40, v, q⟩ := h
    have nd := sc_allowed_swaps.nd
    refine ⟨_, pss_cons (ps_expr (pe_df D1 hr pass0 (pa_cons (pv 0) (pa_cons (pv 1) pa_nil)))) (pss_cons (ps_set (i := 2) nd rfl (Or.inr rfl) (pe_df D2 (hr.mono (by decide)) pass0 (pa_cons (pv 0) pa_nil)))
      (pss_one (ps_ret (pe_callTy call_tuple_of (by rfl) T.tuple (by decide +kernel) (pa_cons
        (pe_lc (own := [("swap", 3)]) (g := gName 3) rfl nd (pi_range1 rfl T.range (pa_cons (pe_op op_sub (pe_len T.len (pv 0)) pe_int) pa_nil)) (blkOk_by (own := [("swap", 3)]) (N := ["rankings", "arrangement", "tables", "swap"]) (sc := defScope s_allowed_swaps) (by decide +kernel))
          (fun _ _ _ _ _ => pg_name (i := 3) nd rfl (Or.inl rfl)) (fun _ _ _ _ _ => pts_one (pt_val (pe_df D3 (hr.mono (by decide)) pass0 (pa_cons (pv 2) (pa_cons (pv 1) (pa_cons (pv 3) pa_nil)))))) (fun _ _ _ _ _ => pv 3)) pa_nil))))), ?_⟩
    refine ⟨_, rfl, _, rfl, r, a, n, x, rfl, hT, hI, h1, h40, v, fun H1 f1 => ?_⟩
    refine ⟨_, rfl, r, x.1, rfl, hT.frm f1, by rw [v.lR]; omega, fun ns hns => ⟨(v.pR ns hns).2.1, by rw [(v.pR ns hns).1]; omega⟩, fun p H2 f2 tb => ?_⟩
    have f := f1.tr f2
    obtain ⟨ps, e, el, _⟩ := (hT.frm f).at
    have eln : (ps.length : Int) - 1 = ((n - 1 : Nat) : Int) := by rw [el, v.lR]; omega
    refine ⟨_, rfl, r, ps, rfl, .inr e, _, _, rfl, rfl, _, rfl, by omega, by rw [eln]; omega, fun D hD => ?_⟩
    rw [eln, Int.toNat_natCast]
    refine lc_range (lo := 0) (n := n - 1) (fun i H' => Frm [] H2 H' ∧ H' D = some (.lst (((List.range i).filter (may x.1 x.2)).map fun j : Nat => V.int (j : Nat)))) ⟨frm_new hD, upd_same⟩ (fun i H' hi z => ?_) (fun H' z => ?_)
    · obtain ⟨f3, g3⟩ := z
      obtain ⟨ds, hp, pd⟩ := tb
      refine ⟨rfl, _, rfl, _, rfl, _, rfl, p, a, n, i, x, by rw [Int.zero_add]; rfl, ⟨ds, f3.lst hp (fun z => nomatch z), Paired.mapP pd fun v ns h => ?_⟩, hI.frm (f.tr f3), v, by omega, _, rfl, ?_⟩
      · obtain ⟨d, kvs, e1, e2, e3⟩ := h
        exact ⟨d, kvs, e1, f3.dk e2 (fun z => nomatch z), e3⟩
      · have hl : (((List.range i).filter (may x.1 x.2)).map fun j : Nat => V.int (j : Nat)).length < sizeLine := by
          rw [List.length_map]
          refine small1000 ?_
          have := List.length_filter_le (may x.1 x.2) (List.range i)
          rw [List.length_range] at this
          omega
        refine iteB (fun hb => ?_) (fun hb => ?_)
        · refine ⟨_, rfl, _, g3, hl, f3.put (.inl hD) (pl_lst g3), ?_⟩
          rw [upd_same, List.range_succ, List.filter_append, List.map_append, Int.zero_add]
          simp [hb]
        · refine ⟨f3, ?_⟩
          rw [g3, List.range_succ, List.filter_append]
          simp [hb]
    · obtain ⟨f3, g3⟩ := z
      refine ⟨D, _, rfl, .inl ⟨SqL.of g3, fun l hl => q l _ ((f.tr f3).new hl) ?_⟩⟩
      unfold TI alI allowed
      rw [upd_same, List.map_map]
      rfl
theorem sc_swapped : FnScope ["arrangement", "swap"] ["arrangement", "swap"] (defScope s_swapped) := ⟨rfl, rfl, rfl, by decide +kernel, rfl, by decide +kernel, by decide +kernel⟩
theorem swp_cut {ns : List Int} {i : Nat} (h : i + 1 < ns.length) : (swp ns i).map V.int = (((ns.map V.int).take i) ++ [V.int (ns.getD (i + 1) 0), V.int (ns.getD i 0)]) ++ (ns.map V.int).drop (i + 2) := by
  unfold swp
  rw [List.map_append, List.map_take, List.map_cons, List.map_cons, List.map_drop, List.append_assoc]
  rfl
theorem ok_swapped (T : Tx K mg A) (D : DefAt K mg "swapped" s_swapped) : Df P w K mg base CX0 1 "swapped" ["arrangement", "swap"] spSwapped := by
  refine Df.of0 D (fun _ _ _ _ _ _ us hl => match us, hl with | [_, _], _ => rfl) sc_swapped (fun vs H Q E h => ?_) (fun f cdv A' outer s H vs Q E hr h => ?_)
  · obtain ⟨a, ns, i, rfl, _⟩ := h
    rfl
  · obtain ⟨a, ns, i, rfl, hI, hl, hi, q⟩ := h
    refine ⟨_, pss_one (ps_ret (pe_op op_catE (pe_op op_catE (pe_slice sl_tupE (pv 0) po_none (po_some (pv 1))) (pe_tup (pa_cons (pe_ix ix_tup (pv 0) (pe_op op_add (pv 1) pe_int) (fun _ _ => rfl)) (pa_cons (pe_ix ix_tup (pv 0) (pv 1) (fun _ _ => rfl)) pa_nil))))
      (pe_slice sl_tupE (pv 0) (po_some (pe_op op_add (pv 1) pe_int)) po_none))), ?_⟩
    have el : (ns.map V.int).length = ns.length := List.length_map ..
    refine ⟨_, rfl, _, rfl, _, rfl, a, _, rfl, hI, fun p1 H1 f1 g1 => ?_⟩
    rw [cut_take (by omega)] at g1
    have hI1 := hI.frm f1
    refine ⟨_, rfl, _, rfl, _, _, rfl, rfl, a, _, _, _, rfl, rfl, SqT.of hI1, at_of (j := i + 1) (by omega) (vat (ex_at hi)), _, rfl, _, rfl, a, _, _, _, rfl, rfl, SqT.of hI1, atI_nat (vat (ex_at (by omega))), by show 2 ≤ sizeLine; decide, fun p2 hp2 => ?_⟩
    have f2 := f1.new (o := .tup [.int (ns.getD (i + 1) 0), .int (ns.getD i 0)]) hp2
    refine ⟨p1, p2, _, _, rfl, rfl, (frm_new (TP := fun _ => True) (fs := []) hp2).tp _ _ g1, upd_same, by rw [List.length_take, el]; simp; omega, fun p3 H3 f3 g3 => ?_⟩
    have f4 := f2.tr f3
    refine ⟨_, rfl, _, rfl, _, _, rfl, rfl, _, rfl, a, _, rfl, hI.frm f4, fun p4 H4 f5 g4 => ?_⟩
    have e2 : ((i : Nat) : Int) + 2 = ((i + 2 : Nat) : Int) := by omega
    rw [e2, cut_drop] at g4
    refine ⟨p3, p4, _, _, rfl, rfl, f5.tp _ _ g3, g4, by rw [List.length_append, List.length_take, List.length_drop, el]; simp; omega, fun p5 H5 f6 g5 => q p5 H5 (f4.tr (f5.tr f6)) ?_⟩
    unfold TI
    rw [g5, swp_cut hi]
end
end Sw
set_option maxHeartbeats 4000000
/-! Swaprow: exceptions are made -/
namespace L2
open PySem PySem.Spec PyProof.Rows
/-- an exception class's own __init__ -/
structure ExAt (K : PySem.W.Frag) (C : Addr) (qual : Str) (st : Stmt) (dvs : List V) : Prop where
  ex : ∃ (f : Addr) (fd : FuncData), FunD K "__init__" qual (defArgs st) (defBody st) (defScope st) dvs [] f fd ∧ PySem.W.findIn K (.ref C) "__init__" = some (some (.ref f)) ∧ PySem.W.typeIn K (.ref f) = some (.type "function")
end L2
namespace Sw
open PySem L2
section
variable {P : Program} {w : World} {K : PySem.W.Frag} {mg : Str → Option Value} {base : Heap} {A : Ad}
theorem sc_eS : FnScope ["self", "value"] ["self", "value"] (defScope s_InvalidSwap) := ⟨rfl, rfl, rfl, by decide +kernel, rfl, by decide +kernel, by decide +kernel⟩
theorem sc_eP : FnScope ["self", "value"] ["self", "value"] (defScope s_InvalidPerson) := ⟨rfl, rfl, rfl, by decide +kernel, rfl, by decide +kernel, by decide +kernel⟩
theorem sc_eR : FnScope ["self", "person"] ["self", "person"] (defScope s_InvalidRankings) := ⟨rfl, rfl, rfl, by decide +kernel, rfl, by decide +kernel, by decide +kernel⟩
theorem sc_eN : FnScope ["self"] ["self"] (defScope s_NothingToUndo) := ⟨rfl, rfl, rfl, by decide +kernel, rfl, by decide +kernel, by decide +kernel⟩
theorem ok_eS (T : Tx K mg A) (D : ExAt K A.eS "InvalidSwap.__init__" s_InvalidSwap []) : ExDef P w K mg base CX0 1 A.eS ["self", "value"] (spExc1 K A.eS "value") := by
  obtain ⟨f, fd, F, iC, tI⟩ := D.ex
  refine ⟨f, fd, iC, tI, F.bindsN (ps := ["self", "value"]) (fun _ _ _ _ _ _ us hl => match us, hl with | [_, _], _ => rfl), F.ok sc_eS (fun vs H Q E h => ?_) (fun cdv A' outer s H vs Q E hr h => ?_)⟩
  · obtain ⟨a, v, rfl, _⟩ := h
    rfl
  · obtain ⟨a, v, rfl, ha, k⟩ := h
    refine ⟨_, pss_cons (ps_expr (pe_supinit rfl T.mgSE T.sup T.supV (pa_cons (pv 0) (pa_cons pe_str pa_nil)))) (pss_one (ps_ost (pv 0) (pv 1))), ?_⟩
    exact ⟨_, rfl, a, A.eS, _, rfl, by show 1 ≤ 1000; decide, T.exS.oex, ha, _, rfl, _, rfl, a, A.eS, rfl, T.exS.oex, T.exS.no, .inl ⟨ha, fun dx hd ne => k dx hd ne⟩⟩
theorem ok_eP (T : Tx K mg A) (D : ExAt K A.eP "InvalidPerson.__init__" s_InvalidPerson []) : ExDef P w K mg base CX0 1 A.eP ["self", "value"] (spExc1 K A.eP "value") := by
  obtain ⟨f, fd, F, iC, tI⟩ := D.ex
  refine ⟨f, fd, iC, tI, F.bindsN (ps := ["self", "value"]) (fun _ _ _ _ _ _ us hl => match us, hl with | [_, _], _ => rfl), F.ok sc_eP (fun vs H Q E h => ?_) (fun cdv A' outer s H vs Q E hr h => ?_)⟩
  · obtain ⟨a, v, rfl, _⟩ := h
    rfl
  · obtain ⟨a, v, rfl, ha, k⟩ := h
    refine ⟨_, pss_cons (ps_expr (pe_supinit rfl T.mgSE T.sup T.supV (pa_cons (pv 0) (pa_cons pe_str pa_nil)))) (pss_one (ps_ost (pv 0) (pv 1))), ?_⟩
    exact ⟨_, rfl, a, A.eP, _, rfl, by show 1 ≤ 1000; decide, T.exP.oex, ha, _, rfl, _, rfl, a, A.eP, rfl, T.exP.oex, T.exP.no, .inl ⟨ha, fun dx hd ne => k dx hd ne⟩⟩
theorem ok_eR (T : Tx K mg A) (D : ExAt K A.eR "InvalidRankings.__init__" s_InvalidRankings [.non]) : ExDef P w K mg base CX0 1 A.eR ["self", "person"] (spExc1 K A.eR "person") := by
  obtain ⟨f, fd, F, iC, tI⟩ := D.ex
  have b : Binds K fd ["self", "person"] [] := by
    obtain ⟨ds, h1, h2⟩ := F.binds1 (ps := ["self", "person"]) 2 1 (by simp) rfl (fun T kV doc pm an cdv ct us its h1 h2 => by
      match us, its, h1, h2 with
      | [_, _], [_], _, _ => exact ⟨_, rfl, rfl⟩)
    cases h1
    exact h2
  refine ⟨f, fd, iC, tI, b, F.ok sc_eR (fun vs H Q E h => ?_) (fun cdv A' outer s H vs Q E hr h => ?_)⟩
  · obtain ⟨a, v, rfl, _⟩ := h
    rfl
  · obtain ⟨a, v, rfl, ha, k⟩ := h
    refine ⟨_, pss_cons (ps_expr (pe_supinit rfl T.mgSE T.sup T.supV (pa_cons (pv 0) (pa_cons pe_str pa_nil)))) (pss_one (ps_ost (pv 0) (pv 1))), ?_⟩
    exact ⟨_, rfl, a, A.eR, _, rfl, by show 1 ≤ 1000; decide, T.exR.oex, ha, _, rfl, _, rfl, a, A.eR, rfl, T.exR.oex, T.exR.no, .inl ⟨ha, fun dx hd ne => k dx hd ne⟩⟩
theorem ok_eN (T : Tx K mg A) (D : ExAt K A.eN "NothingToUndo.__init__" s_NothingToUndo []) : ExDef P w K mg base CX0 1 A.eN ["self"] (spExc0 K A.eN) := by
  obtain ⟨f, fd, F, iC, tI⟩ := D.ex
  refine ⟨f, fd, iC, tI, F.bindsN (ps := ["self"]) (fun _ _ _ _ _ _ us hl => match us, hl with | [_], _ => rfl), F.ok sc_eN (fun vs H Q E h => ?_) (fun cdv A' outer s H vs Q E hr h => ?_)⟩
  · obtain ⟨a, rfl, _⟩ := h
    rfl
  · obtain ⟨a, rfl, ha, k⟩ := h
    refine ⟨_, pss_one (ps_expr (pe_supinit rfl T.mgSE T.sup T.supV (pa_cons (pv 0) (pa_cons pe_str pa_nil)))), ?_⟩
    exact ⟨_, rfl, a, A.eN, _, rfl, by show 1 ≤ 1000; decide, T.exN.oex, ha, k⟩
end
end Sw
set_option maxHeartbeats 4000000
/-! Swaprow: live rows -/
namespace Sw
open PySem L2
theorem k_ra : ¬ ("own_rankings" : Str) = "own_arrangement" := by decide +kernel
theorem k_rc : ¬ ("own_rankings" : Str) = "changes" := by decide +kernel
theorem k_rs : ¬ ("own_rankings" : Str) = "states" := by decide +kernel
theorem k_ac : ¬ ("own_arrangement" : Str) = "changes" := by decide +kernel
theorem k_as : ¬ ("own_arrangement" : Str) = "states" := by decide +kernel
theorem k_cs : ¬ ("changes" : Str) = "states" := by decide +kernel
theorem putF_nil (f : Str) (v : V) : putF f v [] = [(f, v)] := rfl
theorem putF_cons (f g : Str) (v x : V) (r : List (Str × V)) : putF f v ((g, x) :: r) = if g = f then (g, v) :: r else (g, x) :: putF f v r := rfl
theorem flds_new (r a c s : V) : putF "states" s (putF "changes" c (putF "own_arrangement" a (putF "own_rankings" r []))) = ([("own_rankings", r), ("own_arrangement", a), ("changes", c), ("states", s)] : List (Str × V)) := by
  simp only [putF_nil, putF_cons, if_neg k_ra, if_neg k_rc, if_neg k_ac, if_neg k_rs, if_neg k_as, if_neg k_cs]
theorem flds_putA (r a c s a' : Addr) : putF "own_arrangement" (.ref a') (flds r a c s) = flds r a' c s := by
  unfold flds
  rw [putF_cons, if_neg k_ra, putF_cons, if_pos rfl]
theorem flds_putR (r a c s r' : Addr) : putF "own_rankings" (.ref r') (flds r a c s) = flds r' a c s := by
  unfold flds
  rw [putF_cons, if_pos rfl]
theorem flds_putC (r a c s c' : Addr) : putF "changes" (.ref c') (flds r a c s) = flds r a c' s := by
  unfold flds
  rw [putF_cons, if_neg k_rc, putF_cons, if_neg k_ac, putF_cons, if_pos rfl]
theorem flds_putS (r a c s s' : Addr) : putF "states" (.ref s') (flds r a c s) = flds r a c s' := by
  unfold flds
  rw [putF_cons, if_neg k_rs, putF_cons, if_neg k_as, putF_cons, if_neg k_cs, putF_cons, if_pos rfl]
theorem lk_cons (f g : Str) (x : V) (r : List (Str × V)) : List.lookup f ((g, x) :: r) = if f = g then some x else List.lookup f r := by
  by_cases h : f = g
  · rw [if_pos h, h]; simp [List.lookup]
  · have hb : (f == g) = false := beq_eq_false_iff_ne.mpr h
    rw [if_neg h]
    simp only [List.lookup, hb]
theorem lkR (r a c s : Addr) : (flds r a c s).lookup ("own_rankings" : Str) = some (.ref r) := by unfold flds; rw [lk_cons, if_pos rfl]
theorem lkA (r a c s : Addr) : (flds r a c s).lookup ("own_arrangement" : Str) = some (.ref a) := by unfold flds; rw [lk_cons, if_neg (Ne.symm k_ra), lk_cons, if_pos rfl]
theorem lkC (r a c s : Addr) : (flds r a c s).lookup ("changes" : Str) = some (.ref c) := by unfold flds; rw [lk_cons, if_neg (Ne.symm k_rc), lk_cons, if_neg (Ne.symm k_ac), lk_cons, if_pos rfl]
theorem lkS (r a c s : Addr) : (flds r a c s).lookup ("states" : Str) = some (.ref s) := by unfold flds; rw [lk_cons, if_neg (Ne.symm k_rs), lk_cons, if_neg (Ne.symm k_as), lk_cons, if_neg (Ne.symm k_cs), lk_cons, if_pos rfl]
theorem lkN (r a c s : Addr) {m : Str} (h1 : ¬ m = "own_rankings") (h2 : ¬ m = "own_arrangement") (h3 : ¬ m = "changes") (h4 : ¬ m = "states") : (flds r a c s).lookup m = none := by
  unfold flds; rw [lk_cons, if_neg h1, lk_cons, if_neg h2, lk_cons, if_neg h3, lk_cons, if_neg h4]; rfl
theorem flen (r a c s : Addr) : (flds r a c s).length < 1000 := by show 4 < 1000; decide
theorem rgV_rng (n : Nat) : rgV 0 (n : Int) = (rng n).map V.int := by
  unfold rgV rng
  rw [List.map_map, Int.sub_zero, Int.toNat_natCast]
  refine List.map_congr_left fun i _ => ?_
  show V.int (0 + (i : Nat)) = V.int (i : Nat)
  rw [Int.zero_add]
section
variable {P : Program} {w : World} {K : PySem.W.Frag} {mg : Str → Option Value} {base : Heap} {A : Ad} {H : Hp} {C b c s : Addr} {x y : Box}
theorem BoxAt.nbc (m : BoxAt C H b c s x) : b ≠ c := let ⟨_, _, _, e, _⟩ := m.ob; let ⟨_, e2, _⟩ := m.ch; ne_of e e2 fun z => nomatch z
theorem BoxAt.nbs (m : BoxAt C H b c s x) : b ≠ s := let ⟨_, _, _, e, _⟩ := m.ob; let ⟨_, e2, _⟩ := m.st; ne_of e e2 fun z => nomatch z
/-- other rankings, another arrangement -/
theorem BoxAt.setRA (m : BoxAt C H b c s y) {dx r0 a0 r a : Addr} {ra : RA} (hb : H b = some (.ins C dx (flds r0 a0 c s))) (hT : TT H r ra.1) (hI : TI H a ra.2) : BoxAt C (upd H b (.ins C dx (flds r a c s))) b c s ⟨ra, y.deeds, y.past⟩ := by
  have f : FrmT (fun _ => True) [b] H (upd H b (.ins C dx (flds r a c s))) := (FrmT.refl H).put (.inr (by simp)) (pl_ins hb)
  obtain ⟨cs, h1, p1⟩ := m.ch
  obtain ⟨ss, h2, p2⟩ := m.st
  exact ⟨⟨dx, r, a, upd_same, hT.frm f, hI.frm f⟩, ⟨cs, by rw [upd_ne (Ne.symm m.nbc)]; exact h1, pdD p1 f⟩, ⟨ss, by rw [upd_ne (Ne.symm m.nbs)]; exact h2, pdS p2 f⟩, m.ne⟩
theorem sc_row_rankings : FnScope ["self"] ["self"] (defScope s_row_rankings) := ⟨rfl, rfl, rfl, by decide +kernel, rfl, by decide +kernel, by decide +kernel⟩
theorem ok_row_rankings (T : Tx K mg A) (D : MethAt K A.C "rankings" "LiveRow.rankings" s_row_rankings) : Dm P w K mg base CX0 1 A.C "rankings" ["self"] (spRankings A.C) := by
  refine Dm.of0 D (fun _ _ _ _ _ _ us hl => match us, hl with | [_], _ => rfl) sc_row_rankings (fun vs H Q E h => ?_) (fun f cdv A' outer s H vs Q E hr h => ?_)
  · obtain ⟨b, dx, r, a, c, s, rfl, _⟩ := h
    rfl
  · obtain ⟨b, dx, r, a, c, s, rfl, hb, q⟩ := h
    exact ⟨_, pss_one (ps_ret (pe_fld (pv 0) rfl)), _, rfl, b, A.C, dx, _, _, rfl, hb, T.cl, T.nR, lkR _ _ _ _, q⟩
theorem sc_row_arrangement : FnScope ["self"] ["self"] (defScope s_row_arrangement) := ⟨rfl, rfl, rfl, by decide +kernel, rfl, by decide +kernel, by decide +kernel⟩
theorem ok_row_arrangement (T : Tx K mg A) (D : MethAt K A.C "arrangement" "LiveRow.arrangement" s_row_arrangement) : Dm P w K mg base CX0 1 A.C "arrangement" ["self"] (spArr A.C) := by
  refine Dm.of0 D (fun _ _ _ _ _ _ us hl => match us, hl with | [_], _ => rfl) sc_row_arrangement (fun vs H Q E h => ?_) (fun f cdv A' outer s H vs Q E hr h => ?_)
  · obtain ⟨b, dx, r, a, c, s, rfl, _⟩ := h
    rfl
  · obtain ⟨b, dx, r, a, c, s, rfl, hb, q⟩ := h
    exact ⟨_, pss_one (ps_ret (pe_fld (pv 0) rfl)), _, rfl, b, A.C, dx, _, _, rfl, hb, T.cl, T.nA, lkA _ _ _ _, q⟩
theorem sc_row_allowed : FnScope ["self"] ["self"] (defScope s_row_allowed) := ⟨rfl, rfl, rfl, by decide +kernel, rfl, by decide +kernel, by decide +kernel⟩
theorem ok_row_allowed (T : Tx K mg A) (D : MethAt K A.C "allowed" "LiveRow.allowed" s_row_allowed) (D1 : Df P w K mg base CX0 6 "allowed_swaps" ["rankings", "arrangement"] spAllowed) : Dm P w K mg base CX0 7 A.C "allowed" ["self"] (spRowAllowed A.C) := by
  refine Dm.of0 D (fun _ _ _ _ _ _ us hl => match us, hl with | [_], _ => rfl) sc_row_allowed (fun vs H Q E h => ?_) (fun f cdv A' outer s H vs Q E hr h => ?_)
  · obtain ⟨b, dx, r, a, c, s, n, x, rfl, _⟩ := h
    rfl
  · obtain ⟨b, dx, r, a, c, s, n, x, rfl, hb, hT, hI, h1, h40, v, q⟩ := h
    exact ⟨_, pss_one (ps_ret (pe_df D1 hr pass0 (pa_cons (pe_fld (pv 0) rfl) (pa_cons (pe_fld (pv 0) rfl) pa_nil)))), _, rfl, b, A.C, dx, _, _, rfl, hb, T.cl, T.nR, lkR _ _ _ _, _, rfl, b, A.C, dx, _, _, rfl, hb, T.cl, T.nA, lkA _ _ _ _, r, a, n, x, rfl, hT, hI, h1, h40, v, q⟩
theorem sc_row_record : FnScope ["self", "change"] ["self", "change"] (defScope s_row_record) := ⟨rfl, rfl, rfl, by decide +kernel, rfl, by decide +kernel, by decide +kernel⟩
theorem ok_row_record (T : Tx K mg A) (D : MethAt K A.C "record" "LiveRow.record" s_row_record) : Dm P w K mg base CX0 1 A.C "record" ["self", "change"] (spRecord A.C) := by
  refine Dm.of0 D (fun _ _ _ _ _ _ us hl => match us, hl with | [_, _], _ => rfl) sc_row_record (fun vs H Q E h => ?_) (fun f cdv A' outer s H vs Q E hr h => ?_)
  · obtain ⟨b, c, s, x, v, d, rfl, _⟩ := h
    rfl
  · obtain ⟨b, c, s, x, v, d, rfl, m, hd, l1, l2, q⟩ := h
    obtain ⟨dx, r, a, hb, hT, hI⟩ := m.ob
    obtain ⟨cs, hc, pc⟩ := m.ch
    obtain ⟨ss, hs, ps⟩ := m.st
    refine ⟨_, pss_cons (ps_expr (pe_bm PySem.F.plainAttrs_list PySem.F.slot_list_append PySem.F.type_list_append mt_append (pe_fld (pv 0) rfl) (pa_cons (pv 1) pa_nil)))
      (pss_one (ps_expr (pe_bm PySem.F.plainAttrs_list PySem.F.slot_list_append PySem.F.type_list_append mt_append (pe_fld (pv 0) rfl) (pa_cons (pe_tup (pa_cons (pe_fld (pv 0) rfl) (pa_cons (pe_fld (pv 0) rfl) pa_nil))) pa_nil)))), ?_⟩
    refine ⟨_, rfl, b, A.C, dx, _, _, rfl, hb, T.cl, T.nC, lkC _ _ _ _, .inl ⟨rfl, _, SqL.of hc⟩, _, rfl, c, _, _, rfl, rfl, hc, by rw [pd_len pc]; exact small1000 l1, ?_⟩
    have f1 : Frm [c, s] H (upd H c (.lst (cs ++ [v]))) := (FrmT.refl H).put (.inr (by simp)) (pl_lst hc)
    have hb1 : (upd H c (.lst (cs ++ [v]))) b = some (.ins A.C dx (flds r a c s)) := by rw [upd_ne m.nbc]; exact hb
    have hs1 : (upd H c (.lst (cs ++ [v]))) s = some (.lst ss) := by rw [upd_ne (Ne.symm m.ne)]; exact hs
    refine ⟨_, rfl, b, A.C, dx, _, _, rfl, hb1, T.cl, T.nS, lkS _ _ _ _, .inl ⟨rfl, _, SqL.of hs1⟩, _, rfl, b, A.C, dx, _, _, rfl, hb1, T.cl, T.nR, lkR _ _ _ _, _, rfl, b, A.C, dx, _, _, rfl, hb1, T.cl, T.nA, lkA _ _ _ _, by show 2 ≤ sizeLine; decide, fun t ht => ?_⟩
    have f2 := f1.new (o := .tup [.ref r, .ref a]) ht
    have hs2 : (upd (upd H c (.lst (cs ++ [v]))) t (.tup [.ref r, .ref a])) s = some (.lst ss) := by rw [upd_ne (ne_of_none hs1 ht)]; exact hs1
    refine ⟨s, _, _, rfl, rfl, hs2, by rw [pd_len ps]; exact small1000 l2, ?_⟩
    have f3 := f2.put (o := .lst (ss ++ [.ref t])) (p := s) (.inr (by simp)) (pl_lst hs2)
    have nts : t ≠ s := Ne.symm (ne_of_none hs1 ht)
    have hc3 : (upd (upd (upd H c (.lst (cs ++ [v]))) t (.tup [.ref r, .ref a])) s (.lst (ss ++ [.ref t]))) c = some (.lst (cs ++ [v])) := by
      rw [upd_ne m.ne, upd_ne (ne_of_none upd_same ht), upd_same]
    refine q _ f3 ⟨⟨dx, r, a, ?_, hT.frm f3, hI.frm f3⟩, ⟨_, hc3, pd_app (pdD pc f3) (.cons (hd.frm f3) .nil)⟩, ⟨_, upd_same, pd_app (pdS ps f3) (.cons ⟨t, r, a, rfl, ?_, hT.frm f3, hI.frm f3⟩ .nil)⟩, m.ne⟩
    · rw [upd_ne m.nbs, upd_ne (ne_of_none hb1 ht)]; exact hb1
    · rw [upd_ne nts, upd_same]
theorem sc_row_log : FnScope ["self"] ["self"] (defScope s_row_log) := ⟨rfl, rfl, rfl, by decide +kernel, rfl, by decide +kernel, by decide +kernel⟩
theorem ok_row_log (T : Tx K mg A) (D : MethAt K A.C "log" "LiveRow.log" s_row_log) : Dm P w K mg base CX0 1 A.C "log" ["self"] (spRowLog A.C) := by
  refine Dm.of0 D (fun _ _ _ _ _ _ us hl => match us, hl with | [_], _ => rfl) sc_row_log (fun vs H Q E h => ?_) (fun f cdv A' outer s H vs Q E hr h => ?_)
  · obtain ⟨b, dx, r, a, c, s, cs, rfl, _⟩ := h
    rfl
  · obtain ⟨b, dx, r, a, c, s, cs, rfl, hb, hc, q⟩ := h
    exact ⟨_, pss_one (ps_ret (pe_callTy call_list_of (by rfl) T.list (by decide +kernel) (pa_cons (pe_fld (pv 0) rfl) pa_nil))), _, rfl, b, A.C, dx, _, _, rfl, hb, T.cl, T.nC, lkC _ _ _ _, c, _, rfl, .inl (SqL.of hc), q⟩
theorem sc_row_len : FnScope ["self"] ["self"] (defScope s_row_len) := ⟨rfl, rfl, rfl, by decide +kernel, rfl, by decide +kernel, by decide +kernel⟩
theorem ok_row_len (T : Tx K mg A) (D : MethAt K A.C "__len__" "LiveRow.__len__" s_row_len) : Dm P w K mg base CX0 1 A.C "__len__" ["self"] (spRowLen A.C) := by
  refine Dm.of0 D (fun _ _ _ _ _ _ us hl => match us, hl with | [_], _ => rfl) sc_row_len (fun vs H Q E h => ?_) (fun f cdv A' outer s H vs Q E hr h => ?_)
  · obtain ⟨b, dx, r, a, c, s, R, rfl, _⟩ := h
    rfl
  · obtain ⟨b, dx, r, a, c, s, R, rfl, hb, hT, q⟩ := h
    obtain ⟨ps, e, el, _⟩ := hT.at
    rw [← el] at q
    exact ⟨_, pss_one (ps_ret (pe_len T.len (pe_fld (pv 0) rfl))), _, rfl, b, A.C, dx, _, _, rfl, hb, T.cl, T.nR, lkR _ _ _ _, r, ps, rfl, .inr e, q⟩
theorem sc_row_eq : FnScope ["self", "other"] ["self", "other"] (defScope s_row_eq) := ⟨rfl, rfl, rfl, by decide +kernel, rfl, by decide +kernel, by decide +kernel⟩
theorem ok_row_eq (T : Tx K mg A) (D : MethAt K A.C "__eq__" "LiveRow.__eq__" s_row_eq) (D1 : Dm P w K mg base CX0 1 A.C "rankings" ["self"] (spRankings A.C)) (D2 : Dm P w K mg base CX0 1 A.C "arrangement" ["self"] (spArr A.C)) :
    Dm P w K mg base CX0 2 A.C "__eq__" ["self", "other"] (spRowEq A.C) := by
  refine Dm.of0 D (fun _ _ _ _ _ _ us hl => match us, hl with | [_, _], _ => rfl) sc_row_eq (fun vs H Q E h => ?_) (fun f cdv A' outer s H vs Q E hr h => ?_)
  · obtain ⟨b, dx, r, a, c, s, x, v, rfl, _⟩ := h
    rfl
  · obtain ⟨b, dx, r, a, c, s, x, v, rfl, hb, hT, hI, h⟩ := h
    have nm1 : ∀ {r a c s : Addr}, (flds r a c s).lookup ("rankings" : Str) = none := fun {r a c s} => lkN _ _ _ _ (by decide +kernel) (by decide +kernel) (by decide +kernel) (by decide +kernel)
    have nm2 : ∀ {r a c s : Addr}, (flds r a c s).lookup ("arrangement" : Str) = none := fun {r a c s} => lkN _ _ _ _ (by decide +kernel) (by decide +kernel) (by decide +kernel) (by decide +kernel)
    refine ⟨_, pss_cons (ps_if (pt_not (pt_val (pe_callB call_isi (by rfl) T.isinstance (by decide +kernel) (pa_cons (pv 1) (pa_cons (pe_glob (v := .ref A.C) rfl T.mgC rfl) pa_nil))))) (pss_one (ps_ret pe_bl)) pss_nil)
      (pss_one (ps_ret (pe_and (pe_cmpR (op_eqD hr.units) (pe_dm0 (pv 0) T.cl D1 hr pass0) (pe_dm0 (pv 1) T.cl D1 hr pass0) (nomark _))
        (pe_one (pe_cmpR (op_eqD hr.units) (pe_dm0 (pv 0) T.cl D2 hr pass0) (pe_dm0 (pv 1) T.cl D2 hr pass0) (nomark _)))))), ?_⟩
    rcases h with ⟨hk, q⟩ | ⟨b', dx', r', a', c', s', y, rfl, hb', hT', hI', q⟩
    · rcases hk with rfl | ⟨z, rfl⟩ | ⟨t, xs, rfl, ht⟩
      · exact ⟨_, rfl, _, .ref A.C, _, _, false, rfl, .own A.C, .base .non, T.kCN, _, rfl, iteT q⟩
      · exact ⟨_, rfl, _, .ref A.C, _, _, false, rfl, .own A.C, .base (.int z), T.kCI, _, rfl, iteT q⟩
      · exact ⟨_, rfl, _, .ref A.C, _, _, false, rfl, .own A.C, .base (.tup ht), T.kCT, _, rfl, iteT q⟩
    · refine ⟨_, rfl, _, .ref A.C, _, _, true, rfl, .own A.C, .base (.ins hb' T.cl T.cC T.cG T.cT T.cM), T.kCC, _, rfl, iteF ?_⟩
      refine ⟨_, rfl, b, dx, _, rfl, hb, nm1, b, dx, r, a, c, s, rfl, hb, _, rfl, b', dx', _, rfl, hb', nm1, b', dx', r', a', c', s', rfl, hb', dR x.1, dR y.1, dp_TT hT, dp_TT hT', (sh_dR _).shaped (by decide), (sh_dR _).shaped (by decide), _, rfl, ?_⟩
      rw [eqv_dR]
      refine iteB (fun e1 => ?_) (fun e1 => ?_)
      · rw [e1, Bool.true_and] at q
        refine ⟨_, rfl, b, dx, _, rfl, hb, nm2, b, dx, r, a, c, s, rfl, hb, _, rfl, b', dx', _, rfl, hb', nm2, b', dx', r', a', c', s', rfl, hb', dI x.2, dI y.2, dp_TI hI, dp_TI hI', (sh_dI _).shaped (by decide), (sh_dI _).shaped (by decide), ?_⟩
        rw [eqv_dI]
        exact q
      · rw [e1, Bool.false_and] at q
        exact q
end
end Sw
set_option maxHeartbeats 4000000
/-! Swaprow: live rows are made and changed -/
namespace L2
open PySem PySem.Spec PyProof.Rows
structure InitAt (K : PySem.W.Frag) (C : Addr) (qual : Str) (st : Stmt) (kws : List (Str × V)) : Prop where
  ex : ∃ (f : Addr) (fd : FuncData), FunD K "__init__" qual (defArgs st) (defBody st) (defScope st) [] kws f fd ∧ Mk K C f
/-- C(e), C(e, k = e') -/
structure RowInit (P : Program) (w : World) (K : PySem.W.Frag) (mg : Str → Option Value) (base : Heap) (k : Nat) (C : Addr) (ps : List Str) (key : Str) (sp : Sp) : Prop where
  ex : ∃ (f : Addr) (fd : FuncData), Mk K C f ∧ FnOk P w K mg base CX0 k f fd ps sp ∧ (∃ ds, Vals [V.non] ds ∧ Binds K fd ps ds) ∧ KBn K fd ps 2 [key] (fun us ws => us ++ ws) (fun vs zs => vs ++ zs)
end L2
namespace Sw
open PySem L2
section
variable {H : Hp} {C : Addr}
theorem made_end {r : Addr} {v : V} {n : Nat} {x : RA} {Q : VK} (hT : TT H r x.1) (hv : v = .non ∧ x.2 = rng n ∨ ∃ a, v = .ref a ∧ TI H a x.2) (h1 : 1 ≤ n) (h40 : n ≤ 40) (vl : Val n x)
    (k : ∀ b c s H', H b = none → H c = none → H s = none → Frm [] H H' → BoxAt C H' b c s (Box.new x) → Q (.ref b) H') :
    ∀ b dx, H b = none → H dx = none → dx ≠ b → spInit C [.ref b, .ref r, v] (upd (upd H dx (.own b)) b (.ins C dx [])) (fun v H2 => v = .non ∧ Q (.ref b) H2) E0 := by
  intro b dx hb hd ne
  have f0 : Frm [] H (upd (upd H dx (.own b)) b (.ins C dx [])) := frm_made hb hd ne
  refine ⟨b, dx, r, v, n, x, rfl, upd_same, hT.frm f0, ?_, h1, h40, vl, fun c s H' hc hs n1 n2 f m => ⟨rfl, k b c s H' hb (f0.tk _ hc) (f0.tk _ hs) (f0.trans f fun z hz => .inr (by rw [List.mem_singleton.mp hz]; exact hb)) m⟩⟩
  rcases hv with h | ⟨a, e, h⟩
  · exact .inl h
  · exact .inr ⟨a, e, h.frm f0⟩
end
end Sw
namespace L2
open PySem PySem.Spec PyProof.Rows
/-- LiveRow(e): what is asked of the values -/
def rRow (C : Addr) (r v : V) (H : Hp) (Q : VK) : Prop := ∃ (ra : Addr) (n : Nat) (x : Sw.RA), r = .ref ra ∧ Sw.TT H ra x.1 ∧ (v = .non ∧ x.2 = Sw.rng n ∨ ∃ a, v = .ref a ∧ Sw.TI H a x.2) ∧ 1 ≤ n ∧ n ≤ 40 ∧ Sw.Val n x ∧
  ∀ b c s H', H b = none → H c = none → H s = none → Sw.Frm [] H H' → Sw.BoxAt C H' b c s (Sw.Box.new x) → Q (.ref b) H'
def tRow1 (C : Addr) (t : TA) : TE := fun σ H Q => t σ H fun vs H1 => ∃ r, vs = [r] ∧ rRow C r .non H1 Q
def tRowK (C : Addr) (t tk : TA) : TE := fun σ H Q => t σ H fun vs H1 => tk σ H1 fun zs H2 => ∃ r v, vs = [r] ∧ zs = [v] ∧ rRow C r v H2 Q
section
variable {X : Cx} {k : Nat} {C : Addr} {ps : List Str} {key : Str} {x : Str} {p pos : Pos} {e : Expr} {es : List Expr} {kws : List Keyword} {t tk : TA}
theorem pe_row1 (D : RowInit X.prog X.w X.K X.mg X.base k C ps key (Sw.spInit C)) (hr : Room (k + 1) X.A) (hm : X.mg x = some (.ref C)) (ha : PA X (e :: es) t) (hg : Gl X x := by rfl)
    (hdb : (x == ("__debug__" : Str)) = false := by decide) (he : starEach (e :: es) X.env = (false, eval e X.env) :: starEach es X.env := by rfl) (hpl : (backTo pos (starEach es X.env)).any (·.1) = false := by rfl) :
    PE X (.Call (.Name x p) (e :: es) [] pos) (tRow1 C t) := by
  obtain ⟨f, fd, M, F, ⟨ds, hd, b⟩, _⟩ := D.ex
  refine ⟨fun pins s σ H Q I h => ?_⟩
  refine wpAny_Call_Name_kw (ld_glob I hg hm ?_ hdb)
  refine PySem.W.callWith_K (h₀ := X.base) I.ok.mod.kin M.kp (thn (ha.run pos pins s σ H _ I h) fun us s1 ⟨vs, H1, I1, r, q⟩ => ⟨I1.kIn, ?_⟩) he hpl
  obtain ⟨r1, e1, ra, n, y, e2, hT, hv, h1, h40, vl, kk⟩ := q
  subst e1 e2
  exact run_make M F hr b hd (pass0 (X := X)) I1 r (Sw.made_end hT hv h1 h40 vl kk)
theorem pe_rowK (D : RowInit X.prog X.w X.K X.mg X.base k C ps key (Sw.spInit C)) (hr : Room (k + 1) X.A) (hm : X.mg x = some (.ref C)) (ha : PA X (e :: es) t) (hkw : PK X kws tk) (hg : Gl X x := by rfl)
    (hall : (backToKw pos (keywordEach kws X.env)).all (·.1.isSome) = true := by rfl) (hks : (backToKw pos (keywordEach kws X.env)).filterMap (·.1) = [key] := by rfl) (hdb : (x == ("__debug__" : Str)) = false := by decide)
    (he : starEach (e :: es) X.env = (false, eval e X.env) :: starEach es X.env := by rfl) (hpl : ((backTo pos (starEach (e :: es) X.env)).any (·.1) || (backToKw pos (keywordEach kws X.env)).any (·.1.isNone)) = false := by rfl) :
    PE X (.Call (.Name x p) (e :: es) kws pos) (tRowK C t tk) := by
  obtain ⟨f, fd, M, F, _, b⟩ := D.ex
  refine ⟨fun pins s σ H Q I h => ?_⟩
  refine wpAny_Call_Name_kw (ld_glob I hg hm ?_ hdb)
  refine PySem.W.callWith_KW (h₀ := X.base) I.ok.mod.kin M.kp hall (thn (ha.run pos pins s σ H _ I h) fun us s1 ⟨vs, H1, I1, r, q⟩ => ?_) hpl he
  refine thn (hkw.run pos pins s1 σ H1 _ I1 q) fun ws s2 ⟨zs, H2, I2, rz, r1, v1, e1, e3, ra, n, y, e2, hT, hv, h1, h40, vl, kk⟩ => ⟨I2.kIn, ?_⟩
  subst e1 e2 e3
  rw [hks]
  exact run_makeK (n := 1) M F hr b (pass0 (X := X)) I2 r rz rfl rfl (Sw.made_end hT hv h1 h40 vl kk)
end
end L2
namespace Sw
open PySem L2
section
variable {P : Program} {w : World} {K : PySem.W.Frag} {mg : Str → Option Value} {base : Heap} {A : Ad} {H : Hp} {C b c s : Addr} {x y : Box}
theorem sc_row_init : FnScope ["self", "rankings", "arrangement"] ["self", "rankings", "arrangement"] (defScope s_row_init) := ⟨rfl, rfl, rfl, by decide +kernel, rfl, by decide +kernel, by decide +kernel⟩
theorem ok_row_init (T : Tx K mg A) (D : InitAt K A.C "LiveRow.__init__" s_row_init [("arrangement", .non)]) (D1 : Df P w K mg base CX0 4 "check_rankings" ["value"] spCheckRankings) (D2 : Df P w K mg base CX0 3 "check_arrangement" ["value"] spCheckArr) :
    RowInit P w K mg base 5 A.C ["self", "rankings", "arrangement"] "arrangement" (spInit A.C) := by
  obtain ⟨f, fd, F, M⟩ := D.ex
  have b1 := F.binds0 (ps := ["self", "rankings", "arrangement"]) 2 (by simp) rfl (fun D doc pm an cdv ct us ks h1 h2 => by
    match us, ks, h1, h2 with
    | [_, _], [_], _, _ => exact ⟨_, _, _, _, _, _, rfl, rfl, rfl⟩)
  obtain ⟨mv, b2⟩ := F.kbinds0 (ps := ["self", "rankings", "arrangement"]) 2 ["arrangement"] [] (fun us mv ws => us ++ ws) (by simp) (fun q h => by cases h) (fun r1 r2 r3 => r1.append r3) (fun D doc pm an cdv ct us mv ws h1 h2 h3 => by
    match us, mv, ws, h1, h2, h3 with
    | [_, _], [], [_], _, _, _ => rfl)
  refine ⟨f, fd, M, F.ok sc_row_init (fun vs H Q E h => ?_) (fun cdv A' outer s H vs Q E hr h => ?_), b1, b2⟩
  · obtain ⟨b, dx, r, v, n, x, rfl, _⟩ := h
    rfl
  · obtain ⟨b, dx, r, v, n, x, rfl, hb, hT, hv, h1, h40, vl, q⟩ := h
    refine ⟨_, pss_cons (ps_expr (pe_df D1 hr pass0 (pa_cons (pv 1) pa_nil)))
      (pss_cons (ps_if (pt_cmp (pc_notN (pv 2))) (pss_cons (ps_expr (pe_df D2 (hr.mono (by decide)) pass0 (pa_cons (pv 2) pa_nil))) (pss_one (ps_if (pt_cmpR op_ne (pe_len T.len (pv 2)) (pe_len T.len (pv 1)) (nomark _)) (pss_one ps_never) pss_nil))) pss_nil)
      (pss_cons (ps_fld (pv 0) (pv 1) rfl)
      (pss_cons (ps_fld (pv 0) (pe_ifExp (pt_cmp (pc_isN (pv 2))) (pe_tupRg rfl (by rfl) T.tuple (prg_1 (by rfl) T.range (pe_len T.len (pv 1)))) (pv 2)) rfl)
      (pss_cons (ps_fld (pv 0) (pe_lst pa_nil) rfl)
      (pss_one (ps_fld (pv 0) (pe_lst pa_nil) rfl)))))), ?_⟩
    refine ⟨_, rfl, r, x.1, rfl, hT, by rw [vl.lR]; exact h1, by rw [vl.lR]; exact h40, by rw [vl.lR]; exact vl.pR, fun H1 f1 => ?_⟩
    have hb1 := f1.ins hb (fun z => nomatch z)
    have h0 : (([] : List (Str × V))).length < 1000 := by decide
    have hl1 : ∀ v : V, (putF "own_rankings" v []).length < 1000 := fun v => by show 1 < 1000; decide
    have hl2 : ∀ v u : V, (putF "own_arrangement" u (putF "own_rankings" v [])).length < 1000 := fun v u => by rw [putF_nil, putF_cons, if_neg k_ra, putF_nil]; show 2 < 1000; decide
    have hl3 : ∀ v u t : V, (putF "changes" t (putF "own_arrangement" u (putF "own_rankings" v []))).length < 1000 := fun v u t => by
      rw [putF_nil, putF_cons, if_neg k_ra, putF_nil, putF_cons, if_neg k_rc, putF_cons, if_neg k_ac, putF_nil]; show 3 < 1000; decide
    have fin : ∀ (a : Addr) (H2 : Hp) (nx : Hp → Prop), TI H2 a x.2 → Frm [b] H H2 → H2 b = some (.ins A.C dx (putF "own_arrangement" (.ref a) (putF "own_rankings" (.ref r) []))) → (∀ H', Q .non H' → nx H') →
        ∀ c, H2 c = none → ∀ s, (upd (upd H2 c (.lst [])) b (.ins A.C dx (putF "changes" (.ref c) (putF "own_arrangement" (.ref a) (putF "own_rankings" (.ref r) []))))) s = none →
          nx (upd (upd (upd (upd H2 c (.lst [])) b (.ins A.C dx (putF "changes" (.ref c) (putF "own_arrangement" (.ref a) (putF "own_rankings" (.ref r) []))))) s (.lst [])) b (.ins A.C dx (putF "states" (.ref s) (putF "changes" (.ref c) (putF "own_arrangement" (.ref a) (putF "own_rankings" (.ref r) [])))))) := by
      intro a H2 nx hI f hb2 hnx c hc s hs
      have nbc : b ≠ c := ne_of_none hb2 hc
      have f2 := f.new (o := .lst []) hc
      have hb3 : (upd H2 c (.lst [])) b = some (.ins A.C dx (putF "own_arrangement" (.ref a) (putF "own_rankings" (.ref r) []))) := by rw [upd_ne nbc]; exact hb2
      have f3 := f2.put (o := .ins A.C dx (putF "changes" (.ref c) (putF "own_arrangement" (.ref a) (putF "own_rankings" (.ref r) [])))) (.inr (by simp)) (pl_ins hb3)
      have nbs : b ≠ s := ne_of_none upd_same hs
      have hc3 : (upd (upd H2 c (.lst [])) b (.ins A.C dx (putF "changes" (.ref c) (putF "own_arrangement" (.ref a) (putF "own_rankings" (.ref r) []))))) c = some (.lst []) := by rw [upd_ne (Ne.symm nbc), upd_same]
      have ncs : c ≠ s := ne_of_none hc3 hs
      have f4 := f3.new (o := .lst []) hs
      have f5 := f4.put (p := b) (o := .ins A.C dx (putF "states" (.ref s) (putF "changes" (.ref c) (putF "own_arrangement" (.ref a) (putF "own_rankings" (.ref r) []))))) (.inr (by simp)) (by rw [upd_ne nbs, upd_same]; exact True.intro)
      refine hnx _ (q c s _ (f.tk _ hc) (f3.tk _ hs) (Ne.symm nbc) (Ne.symm nbs) f5 ⟨⟨dx, r, a, ?_, hT.frm f5, ?_⟩, ⟨[], ?_, .nil⟩, ⟨[], ?_, .nil⟩, ncs⟩)
      · rw [upd_same, flds_new]; rfl
      · have g : FrmT (fun _ => True) [b] H2 _ := (((FrmT.refl H2).new (o := .lst []) hc).put (o := .ins A.C dx (putF "changes" (.ref c) (putF "own_arrangement" (.ref a) (putF "own_rankings" (.ref r) [])))) (.inr (by simp)) (pl_ins hb3)).new (o := .lst []) hs
        exact (hI.frm g).frm ((FrmT.refl (TP := fun _ => True) (fs := [b]) _).put (p := b) (o := .ins A.C dx (putF "states" (.ref s) (putF "changes" (.ref c) (putF "own_arrangement" (.ref a) (putF "own_rankings" (.ref r) []))))) (.inr (by simp)) (by rw [upd_ne nbs, upd_same]; exact True.intro))
      · rw [upd_ne (Ne.symm nbc), upd_ne ncs]; exact hc3
      · rw [upd_ne (Ne.symm nbs), upd_same]
    rcases hv with ⟨rfl, hx⟩ | ⟨a, rfl, hI⟩
    · refine ⟨_, rfl, _, rfl, iteNS rfl ?_⟩
      have f2 : Frm [b] H (upd H1 b (.ins A.C dx (putF "own_rankings" (.ref r) []))) := f1.mono0.put (.inr (by simp)) (pl_ins hb1)
      refine ⟨_, rfl, _, rfl, b, A.C, dx, [], rfl, hb1, T.cl, T.nR, h0, ?_⟩
      obtain ⟨ps, e, el, _⟩ := (hT.frm f2).at
      refine ⟨_, rfl, _, rfl, iteP (by simp) ⟨_, rfl, r, ps, rfl, .inr e, _, rfl, .of_le (by decide) (by rw [el, vl.lR]; omega) (by decide) (by omega), fun q1 hq1 => ?_⟩⟩
      have nb1 : b ≠ q1 := ne_of_none upd_same hq1
      have f3 := f2.new (o := .tup (rgV 0 (ps.length : Nat))) hq1
      have hb3 : (upd (upd H1 b (.ins A.C dx (putF "own_rankings" (.ref r) []))) q1 (.tup (rgV 0 (ps.length : Nat)))) b = some (.ins A.C dx (putF "own_rankings" (.ref r) [])) := by rw [upd_ne nb1, upd_same]
      refine ⟨_, rfl, b, A.C, dx, _, rfl, hb3, T.cl, T.nA, hl1 _, ?_⟩
      have f4 := f3.put (o := .ins A.C dx (putF "own_arrangement" (.ref q1) (putF "own_rankings" (.ref r) []))) (.inr (by simp)) (pl_ins hb3)
      refine ⟨by show 0 ≤ sizeLine; decide, fun c hc => ?_⟩
      refine ⟨_, rfl, b, A.C, dx, _, rfl, by rw [upd_ne (ne_of_none upd_same hc), upd_same], T.cl, T.nC, hl2 _ _, ?_⟩
      refine ⟨by show 0 ≤ sizeLine; decide, fun s hs => ?_⟩
      refine ⟨_, rfl, b, A.C, dx, _, rfl, by rw [upd_ne (ne_of_none upd_same hs), upd_same], T.cl, T.nS, hl3 _ _ _, ?_⟩
      refine fin q1 _ _ ?_ f4 upd_same (fun H' h => h) c hc s hs
      unfold TI
      rw [upd_ne (Ne.symm nb1), upd_same, el, vl.lR, hx, rgV_rng]
    · refine ⟨_, rfl, _, rfl, iteP (by simp) ⟨_, rfl, a, x.2, rfl, hI.frm f1, by rw [vl.pA.1]; exact h1, by rw [vl.pA.1]; exact h40, by rw [vl.pA.1]; exact vl.pA, fun H2 f2 => ?_⟩⟩
      have f3 := f1.tr f2
      obtain ⟨ps, e, el, _⟩ := (hT.frm f3).at
      refine ⟨_, rfl, a, _, rfl, .inr (hI.frm f3), _, rfl, r, ps, rfl, .inr e, rfl, _, rfl, iteNS (by rw [List.length_map, el, vl.pA.1, vl.lR]) ?_⟩
      have hb2 := f3.ins hb (fun z => nomatch z)
      have f4 : Frm [b] H (upd H2 b (.ins A.C dx (putF "own_rankings" (.ref r) []))) := f3.mono0.put (.inr (by simp)) (pl_ins hb2)
      refine ⟨_, rfl, _, rfl, b, A.C, dx, [], rfl, hb2, T.cl, T.nR, h0, ?_⟩
      refine ⟨_, rfl, _, rfl, iteN (by simp) ⟨_, rfl, _, rfl, b, A.C, dx, _, rfl, upd_same, T.cl, T.nA, hl1 _, ?_⟩⟩
      have f5 := f4.put (p := b) (o := .ins A.C dx (putF "own_arrangement" (.ref a) (putF "own_rankings" (.ref r) []))) (.inr (by simp)) (by rw [upd_same]; exact True.intro)
      refine ⟨by show 0 ≤ sizeLine; decide, fun c hc => ?_⟩
      refine ⟨_, rfl, b, A.C, dx, _, rfl, by rw [upd_ne (ne_of_none upd_same hc), upd_same], T.cl, T.nC, hl2 _ _, ?_⟩
      refine ⟨by show 0 ≤ sizeLine; decide, fun s hs => ?_⟩
      refine ⟨_, rfl, b, A.C, dx, _, rfl, by rw [upd_ne (ne_of_none upd_same hs), upd_same], T.cl, T.nS, hl3 _ _ _, ?_⟩
      exact fin a _ _ (hI.frm f5) f5 upd_same (fun H' h => h) c hc s hs
end
end Sw
set_option maxHeartbeats 4000000
/-! Swaprow: live rows are changed -/
namespace Sw
open PySem L2
theorem mem_alI {n : Nat} {R : List (List Int)} {B : List Int} {z : Int} (h0 : 0 ≤ z) : z ∈ alI n R B ↔ z.toNat < n - 1 ∧ may R B z.toNat = true := by
  unfold alI
  rw [List.mem_map]
  constructor
  · rintro ⟨i, hi, rfl⟩
    rw [Int.toNat_natCast]
    exact mem_allowed.mp hi
  · intro h
    exact ⟨z.toNat, mem_allowed.mpr h, by omega⟩
theorem swapOf_no {n : Nat} {x : Box} {v : V} (h : bel ((n : Int) - 1) v = false) : swapOf n x v = none := by
  cases v with
  | int z =>
    show (if bel ((n : Int) - 1) (.int z) = true ∧ may x.R x.A z.toNat = true then some z.toNat else none) = none
    rw [if_neg (by rw [h]; simp)]
  | _ => rfl
theorem bel_int {n : Int} {v : V} (h : bel n v = true) : ∃ z, v = .int z ∧ 0 ≤ z ∧ z < n := by
  cases v with
  | int z =>
    have h2 : (decide (0 ≤ z) && decide (z < n)) = true := h
    rw [Bool.and_eq_true, decide_eq_true_eq, decide_eq_true_eq] at h2
    exact ⟨z, rfl, h2⟩
  | _ => cases h
theorem list_nil_eqv : ∀ (ds : List Deed), PyData.eqv (dDs ds) (.list []) = decide (ds = [])
  | [] => by simp [dDs, PyData.eqv, PyData.eqvAll]
  | d :: ds => by simp [dDs, PyData.eqv, PyData.eqvAll]
theorem sh_nil : Sh 1 (.list []) := sh_lst fun d hd => by cases hd
theorem xd_new {H : Hp} {d : Addr} {fs : List (Str × V)} (hd : H d = none) : Frm [] H (upd H d (.xd fs)) := frm_new hd
section
variable {P : Program} {w : World} {K : PySem.W.Frag} {mg : Str → Option Value} {base : Heap} {A : Ad}
theorem sc_row_swap : FnScope ["self", "place"] ["self", "place"] (defScope s_row_swap) := ⟨rfl, rfl, rfl, by decide +kernel, rfl, by decide +kernel, by decide +kernel⟩
theorem ok_row_swap (T : Tx K mg A) (D : MethAt K A.C "swap" "LiveRow.swap" s_row_swap) (D1 : Df P w K mg base CX0 2 "is_number_below" ["value", "limit"] spBelow) (D2 : Dm P w K mg base CX0 7 A.C "allowed" ["self"] (spRowAllowed A.C))
    (D3 : Dm P w K mg base CX0 1 A.C "record" ["self", "change"] (spRecord A.C)) (D4 : Df P w K mg base CX0 1 "swapped" ["arrangement", "swap"] spSwapped) (DS : ExDef P w K mg base CX0 1 A.eS ["self", "value"] (spExc1 K A.eS "value")) :
    Dm P w K mg base (L2.CX P w) 8 A.C "swap" ["self", "place"] (spRowSwap A) := by
  refine Dm.of D (fun _ _ _ _ _ _ us hl => match us, hl with | [_, _], _ => rfl) sc_row_swap (fun vs H Q E h => ?_) (fun f cdv A' outer s H vs Q E hr h => ?_)
  · obtain ⟨b, c, s, n, m, x0, x, v, k, rfl, _⟩ := h
    rfl
  · obtain ⟨b, c, s, n, m, x0, x, v, k, rfl, bx, g, hm, kd, q1, q2⟩ := h
    obtain ⟨dx, r, a, hb, hT, hI⟩ := bx.ob
    obtain ⟨ps, e, el, _⟩ := hT.at
    have nmA : (flds r a c s).lookup ("allowed" : Str) = none := lkN _ _ _ _ (by decide +kernel) (by decide +kernel) (by decide +kernel) (by decide +kernel)
    have nmR : (flds r a c s).lookup ("record" : Str) = none := lkN _ _ _ _ (by decide +kernel) (by decide +kernel) (by decide +kernel) (by decide +kernel)
    refine ⟨_, pss_cons (ps_if (PW.pt (pw_or (pt_not (pt_val (pe_df D1 (hr.mono (by decide)) pass0 (pa_cons (pv 1) (pa_cons (pe_op op_sub (pe_len T.len (pe_fld (pv 0) rfl)) pe_int) pa_nil))))) (pw_or1 (pt_cmpR op_notIn_seq (pv 1) (pe_dm0 (pv 0) T.cl D2 hr pass0) (by rfl)))))
        (pss_one (ps_raise1 T.exS.oex DS (hr.mono (by decide)) T.mgS (takes_of rfl rfl rfl rfl) (pa_cons (pv 1) pa_nil))) pss_nil)
      (pss_cons (ps_expr (pe_dm (pv 0) T.cl D3 (hr.mono (by decide)) pass0 (pa_cons (pe_tup (pa_cons pe_str (pa_cons (pv 1) pa_nil))) pa_nil)))
      (pss_one (ps_fld (pv 0) (pe_df D4 (hr.mono (by decide)) pass0 (pa_cons (pe_fld (pv 0) rfl) (pa_cons (pv 1) pa_nil))) rfl))), ?_⟩
    have en : (ps.length : Int) - 1 = (n : Int) - 1 := by rw [el, g.lR]
    refine ⟨_, rfl, _, rfl, b, A.C, dx, _, _, rfl, hb, T.cl, T.nR, lkR _ _ _ _, r, ps, rfl, .inr e, _, _, rfl, rfl, v, _, k, rfl, kd, _, rfl, ?_⟩
    rw [en]
    cases hbe : bel ((n : Int) - 1) v with
    | false => exact iteT ⟨_, rfl, raise1_end fun d hd => q2 (swapOf_no hbe) d _ (xd_new hd) upd_same⟩
    | true =>
      obtain ⟨z, rfl, h0, h1⟩ := bel_int hbe
      refine iteF ⟨_, rfl, _, rfl, b, dx, _, rfl, hb, nmA, b, dx, r, a, c, s, n, x.ra, rfl, hb, hT, hI, g.n1, g.n8, g.val, fun p H1 f1 hp => ?_⟩
      refine ⟨p, _, rfl, .inr (SqT.of hp), rfl, flat_ints _, _, rfl, ?_⟩
      rw [inV_ints]
      by_cases hmay : may x.R x.A z.toNat = true
      · have hin : z ∈ alI n x.ra.1 x.ra.2 := (mem_alI h0).mpr ⟨by omega, hmay⟩
        have hsw : swapOf n x (.int z) = some z.toNat := by
          show (if bel ((n : Int) - 1) (.int z) = true ∧ may x.R x.A z.toNat = true then some z.toNat else none) = _
          rw [if_pos ⟨hbe, hmay⟩]
        refine iteN (by rw [decide_eq_true hin]; simp) ?_
        have hb1 := f1.ins hb (fun z => nomatch z)
        have bx1 := bx.frm0 f1
        refine ⟨_, rfl, b, dx, _, rfl, hb1, nmR, _, rfl, by show 2 ≤ sizeLine; decide, fun t ht => ?_⟩
        have f2 := f1.new (o := .tup [.str "swap", .int z]) ht
        have bx2 := bx1.frm0 (frm_new (TP := fun _ => True) (o := .tup [.str "swap", .int z]) ht)
        have hz : (V.int z) = V.int ((z.toNat : Nat) : Int) := by congr 1; omega
        refine ⟨b, c, s, x, .ref t, .swap z.toNat, rfl, bx2, ⟨t, rfl, by rw [upd_same, hz]⟩, Nat.le_trans g.few hm, by rw [← g.len]; exact Nat.le_trans g.few hm, fun H3 f3 bx3 => ?_⟩
        obtain ⟨dx3, r3, a3, hb3, hT3, hI3⟩ := bx3.ob
        have f03 : Frm [b, c, s] H H3 := (f2.mono0).trans f3 fun z hz => .inl (List.mem_cons_of_mem _ hz)
        refine ⟨_, rfl, b, A.C, dx3, _, _, rfl, hb3, T.cl, T.nA, lkA _ _ _ _, _, rfl, a3, x.A, z.toNat, by rw [← hz]; rfl, hI3, by rw [g.lA]; have := g.n8; omega, by rw [g.lA]; omega, fun p4 H4 f4 hp4 => ?_⟩
        have bx4 := bx3.frm0 f4
        have hb4 := f4.ins hb3 (fun z => nomatch z)
        have f04 := f03.tr0 f4
        refine ⟨_, rfl, b, A.C, dx3, _, rfl, hb4, T.cl, T.nA, flen _ _ _ _, ?_⟩
        rw [flds_putA]
        exact q1 _ hsw _ (f04.put (.inr (by simp)) (pl_ins hb4)) (bx4.setRA (ra := (x.R, swp x.A z.toNat)) hb4 (hT3.frm f4) hp4)
      · have hnin : z ∉ alI n x.ra.1 x.ra.2 := fun h => hmay ((mem_alI h0).mp h).2
        have hsw : swapOf n x (.int z) = none := by
          show (if bel ((n : Int) - 1) (.int z) = true ∧ may x.R x.A z.toNat = true then some z.toNat else none) = _
          rw [if_neg (fun h => hmay h.2)]
        refine iteP (by rw [decide_eq_false hnin]; simp) ?_
        exact ⟨_, rfl, raise1_end fun d hd => q2 hsw d _ (f1.tr (xd_new hd)) upd_same⟩
theorem sc_row_undo : FnScope ["self"] ["self"] (defScope s_row_undo) := ⟨rfl, rfl, rfl, by decide +kernel, rfl, by decide +kernel, by decide +kernel⟩
theorem ok_row_undo (T : Tx K mg A) (D : MethAt K A.C "undo" "LiveRow.undo" s_row_undo) (DN : ExDef P w K mg base CX0 1 A.eN ["self"] (spExc0 K A.eN)) :
    Dm P w K mg base (L2.CX P w) 3 A.C "undo" ["self"] (spRowUndo A) := by
  refine Dm.of D (fun _ _ _ _ _ _ us hl => match us, hl with | [_], _ => rfl) sc_row_undo (fun vs H Q E h => ?_) (fun f cdv A' outer s H vs Q E hr h => ?_)
  · obtain ⟨b, c, s, n, m, x0, x, rfl, _⟩ := h
    rfl
  · obtain ⟨b, c, s, n, m, x0, x, rfl, bx, g, q1, q2⟩ := h
    obtain ⟨dx, r, a, hb, hT, hI⟩ := bx.ob
    obtain ⟨cs, hc, pc⟩ := bx.ch
    obtain ⟨ss, hs, ps⟩ := bx.st
    refine ⟨_, pss_cons (ps_if (pt_cmpR (op_eqD hr.units) (pe_fld (pv 0) rfl) (pe_lst pa_nil) (nomark _)) (pss_one (ps_raise0 T.exN.oex DN hr T.mgN (takes_of rfl rfl rfl rfl))) pss_nil)
      (pss_cons (ps_expr (pe_bm0 PySem.F.plainAttrs_list PySem.F.slot_list_pop PySem.F.type_list_pop mt_pop (pe_fld (pv 0) rfl)))
      (pss_one (ps_asg (pe_bm0 PySem.F.plainAttrs_list PySem.F.slot_list_pop PySem.F.type_list_pop mt_pop (pe_fld (pv 0) rfl)) (pg_tup rfl (pgs_cons (pg_fld (pv 0)) (pgs_cons (pg_fld (pv 0)) pgs_nil)))))), ?_⟩
    refine ⟨_, rfl, b, A.C, dx, _, _, rfl, hb, T.cl, T.nC, lkC _ _ _ _, by show 0 ≤ sizeLine; decide, fun l hl => ?_⟩
    have f1 : Frm [] H (upd H l (.lst [])) := frm_new hl
    have bx1 := bx.frm0 f1
    have hb1 := f1.ins hb (fun z => nomatch z)
    have hc1 := f1.lst hc (fun z => nomatch z)
    have hs1 := f1.lst hs (fun z => nomatch z)
    refine ⟨dDs x.deeds, .list [], dp_deeds hc1 (pdD pc f1), .lst (SqL.of upd_same) .nil, (sh_dDs _).shaped (by decide), sh_nil.shaped (by decide), _, rfl, ?_⟩
    rw [list_nil_eqv]
    by_cases hd : x.deeds = []
    · refine iteP (by rw [decide_eq_true hd]) ?_
      exact raise0_end (q1 hd _ f1)
    · refine iteN (by rw [decide_eq_false hd]; simp) ?_
      have hp : x.past ≠ [] := fun e => hd (List.eq_nil_of_length_eq_zero (by rw [g.len, e]; rfl))
      have hcs : cs ≠ [] := fun e => hd (List.eq_nil_of_length_eq_zero (by rw [← pd_len pc, e]; rfl))
      have lastc : cs[cs.length - 1]? = some (cs.getLast hcs) := by rw [← List.getLast?_eq_getElem?, List.getLast?_eq_some_getLast hcs]
      have elast : x.past.getLast? = some (x.past.getLastD x.ra) := by rw [List.getLastD_eq_getLast?, List.getLast?_eq_some_getLast hp]; rfl
      obtain ⟨sv, hsv, t, r2, a2, rfl, ht, hT2, hI2⟩ := pd_last ps elast
      refine ⟨_, rfl, b, A.C, dx, _, _, rfl, hb1, T.cl, T.nC, lkC _ _ _ _, .inl ⟨rfl, _, SqL.of hc1⟩, c, _, _, rfl, rfl, hc1, lastc, ?_⟩
      have f2 : Frm [b, c, s] H (upd (upd H l (.lst [])) c (.lst cs.dropLast)) := f1.mono0.put (.inr (by simp)) (pl_lst hc1)
      have hb2 : (upd (upd H l (.lst [])) c (.lst cs.dropLast)) b = some (.ins A.C dx (flds r a c s)) := by rw [upd_ne bx.nbc]; exact hb1
      have hs2 : (upd (upd H l (.lst [])) c (.lst cs.dropLast)) s = some (.lst ss) := by rw [upd_ne (Ne.symm bx.ne)]; exact hs1
      refine ⟨_, rfl, b, A.C, dx, _, _, rfl, hb2, T.cl, T.nS, lkS _ _ _ _, .inl ⟨rfl, _, SqL.of hs2⟩, s, _, _, rfl, rfl, hs2, hsv, ?_⟩
      have f3 := f2.put (p := s) (o := .lst ss.dropLast) (.inr (by simp)) (pl_lst hs2)
      have hb3 : (upd (upd (upd H l (.lst [])) c (.lst cs.dropLast)) s (.lst ss.dropLast)) b = some (.ins A.C dx (flds r a c s)) := by rw [upd_ne bx.nbs]; exact hb2
      have ht3 := f3.tp _ _ ht
      have hc3 : (upd (upd (upd H l (.lst [])) c (.lst cs.dropLast)) s (.lst ss.dropLast)) c = some (.lst cs.dropLast) := by rw [upd_ne bx.ne, upd_same]
      refine ⟨t, _, rfl, SqT.of ht3, rfl, _, _, rfl, _, rfl, b, A.C, dx, _, rfl, hb3, T.cl, T.nR, flen _ _ _ _, ?_⟩
      rw [flds_putR]
      have f4 := f3.put (p := b) (o := .ins A.C dx (flds r2 a c s)) (.inr (by simp)) (pl_ins hb3)
      refine ⟨_, _, rfl, _, rfl, b, A.C, dx, _, rfl, upd_same, T.cl, T.nA, flen _ _ _ _, rfl, ?_⟩
      rw [flds_putA]
      have f5 := f4.put (p := b) (o := .ins A.C dx (flds r2 a2 c s)) (.inr (by simp)) (by rw [upd_same]; exact True.intro)
      refine q2 hd _ f5 ⟨⟨dx, r2, a2, upd_same, hT2.frm f5, hI2.frm f5⟩, ⟨_, ?_, pdD (pd_dropLast pc) f5⟩, ⟨_, ?_, pdS (pd_dropLast ps) f5⟩, bx.ne⟩
      · rw [upd_ne (Ne.symm bx.nbc), upd_ne (Ne.symm bx.nbc)]; exact hc3
      · rw [upd_ne (Ne.symm bx.nbs), upd_ne (Ne.symm bx.nbs), upd_same]
theorem sc_row_rerank : FnScope ["self", "person", "ranking"] ["self", "person", "ranking"] (defScope s_row_rerank) := ⟨rfl, rfl, rfl, by decide +kernel, rfl, by decide +kernel, by decide +kernel⟩
theorem personOf_no {n : Nat} {v : V} (h : bel n v = false) : personOf n v = none := by
  cases v with
  | int z =>
    show (if bel n (.int z) = true then some z.toNat else none) = none
    rw [if_neg (by rw [h]; simp)]
  | _ => rfl
theorem personOf_yes {n : Nat} {z : Int} (h : bel n (.int z) = true) : personOf n (.int z) = some z.toNat := by
  show (if bel n (.int z) = true then some z.toNat else none) = some z.toNat
  rw [if_pos h]
theorem set_cut {α : Type} {l : List α} {i : Nat} {a : α} (h : i < l.length) : l.take i ++ (a :: l.drop (i + 1)) = l.set i a := by
  rw [List.set_eq_take_append_cons_drop, if_pos h]
theorem pd_set {α β : Type} {F : α → β → Prop} {a : α} {b : β} (ha : F a b) : ∀ {l : List α} {m : List β} {i : Nat}, Paired F l m → Paired F (l.set i a) (m.set i b)
  | _, _, _, .nil => .nil
  | _, _, 0, .cons _ p => .cons ha p
  | _, _, i + 1, .cons h p => .cons h (pd_set ha p)
theorem ok_row_rerank (T : Tx K mg A) (D : MethAt K A.C "rerank" "LiveRow.rerank" s_row_rerank) (D1 : Df P w K mg base (L2.CX P w) 3 "check_person" ["rankings", "person"] (spCheckPerson A)) (D2 : Df P w K mg base CX0 3 "is_ranking" ["value", "size"] spIsRanking)
    (D3 : Dm P w K mg base CX0 1 A.C "record" ["self", "change"] (spRecord A.C)) (DR : ExDef P w K mg base CX0 1 A.eR ["self", "person"] (spExc1 K A.eR "person")) :
    Dm P w K mg base (L2.CX P w) 4 A.C "rerank" ["self", "person", "ranking"] (spRowRerank A) := by
  refine Dm.of D (fun _ _ _ _ _ _ us hl => match us, hl with | [_, _, _], _ => rfl) sc_row_rerank (fun vs H Q E h => ?_) (fun f cdv A' outer s H vs Q E hr h => ?_)
  · obtain ⟨b, c, s, n, m, x0, x, v, w, k, o, rfl, _⟩ := h
    rfl
  · obtain ⟨b, c, s, n, m, x0, x, v, w, k, o, rfl, bx, g, hm, kd, rk, q1, q2, q3⟩ := h
    obtain ⟨dx, r, a, hb, hT, hI⟩ := bx.ob
    obtain ⟨ps, e, el, _⟩ := hT.at
    have nmR : (flds r a c s).lookup ("record" : Str) = none := lkN _ _ _ _ (by decide +kernel) (by decide +kernel) (by decide +kernel) (by decide +kernel)
    refine ⟨_, pss_cons (ps_expr (pe_df D1 hr (passes_call (takes_of rfl rfl rfl rfl) (fun _ _ _ _ h => h)) (pa_cons (pe_fld (pv 0) rfl) (pa_cons (pv 1) pa_nil))))
      (pss_cons (ps_if (pt_not (pt_val (pe_df D2 hr pass0 (pa_cons (pv 2) (pa_cons (pe_len T.len (pe_fld (pv 0) rfl)) pa_nil))))) (pss_one (ps_raise1 T.exR.oex DR (hr.mono (by decide)) T.mgR (takes_of rfl rfl rfl rfl) (pa_cons (pv 1) pa_nil))) pss_nil)
      (pss_cons (ps_expr (pe_dm (pv 0) T.cl D3 (hr.mono (by decide)) pass0 (pa_cons (pe_tup (pa_cons pe_str (pa_cons (pv 1) (pa_cons (pv 2) pa_nil)))) pa_nil)))
      (pss_one (ps_fld (pv 0) (pe_op op_catE (pe_op op_catE (pe_slice sl_tupE (pe_fld (pv 0) rfl) po_none (po_some (pv 1))) (pe_tup (pa_cons (pv 2) pa_nil))) (pe_slice sl_tupE (pe_fld (pv 0) rfl) (po_some (pe_op op_add (pv 1) pe_int)) po_none)) rfl)))), ?_⟩
    refine ⟨_, rfl, b, A.C, dx, _, _, rfl, hb, T.cl, T.nR, lkR _ _ _ _, _, rfl, r, x.R, v, k, rfl, hT, kd, fun hbe => ?_, fun hbe d hd => ?_⟩
    · have hbe' : bel n v = true := by rw [g.lR] at hbe; exact hbe
      obtain ⟨z, rfl, h0, h1⟩ := bel_int hbe'
      have hpo := personOf_yes hbe'
      refine ⟨_, rfl, _, rfl, b, A.C, dx, _, _, rfl, hb, T.cl, T.nR, lkR _ _ _ _, r, ps, rfl, .inr e, w, n, o, by rw [el, g.lR]; rfl, by have := g.n8; omega, rk, fun H1 f1 => ⟨_, rfl, ?_⟩⟩
      have hb1 := f1.ins hb (fun z => nomatch z)
      have bx1 := bx.frm0 f1
      cases o with
      | none => exact iteT ⟨_, rfl, raise1_end fun d hd => q2 _ hpo rfl d _ (f1.tr (xd_new hd)) upd_same⟩
      | some ns =>
        refine iteF ?_
        obtain ⟨wa, rfl, hns, hrk⟩ : ∃ wa, w = .ref wa ∧ TF H wa ns ∧ isRk ns n = true := by
          generalize ho : (some ns : Option (List Int)) = oo at rk
          cases rk with
          | @int a ms h l =>
            by_cases hr : isRk ms n = true
            · rw [if_pos hr] at ho
              cases ho
              exact ⟨a, rfl, h, hr⟩
            · rw [if_neg hr] at ho
              cases ho
          | _ => cases ho
        refine ⟨_, rfl, b, dx, _, rfl, hb1, nmR, _, rfl, _, rfl, by show 3 ≤ sizeLine; decide, fun t ht => ?_⟩
        have ft : Frm [] H1 (upd H1 t (.tup [.str "rerank", .int z, .ref wa])) := frm_new ht
        have f2 := f1.tr ft
        have bx2 := bx1.frm0 ft
        have hz : (V.int z) = V.int ((z.toNat : Nat) : Int) := by congr 1; omega
        refine ⟨b, c, s, x, .ref t, .rerank z.toNat ns, rfl, bx2, ⟨t, wa, rfl, by rw [upd_same, hz], hns.frm f2⟩, Nat.le_trans g.few hm, by rw [← g.len]; exact Nat.le_trans g.few hm, fun H3 f3 bx3 => ?_⟩
        obtain ⟨dx3, r3, a3, hb3, hT3, hI3⟩ := bx3.ob
        have f03 : Frm [b, c, s] H H3 := (f2.mono0).trans f3 fun z hz => .inl (List.mem_cons_of_mem _ hz)
        obtain ⟨ps3, e3, pd3⟩ := hT3
        have el3 : ps3.length = n := (pd_len pd3).trans g.lR
        refine ⟨_, rfl, b, A.C, dx3, _, _, rfl, hb3, T.cl, T.nR, lkR _ _ _ _, _, rfl, _, rfl, r3, ps3, rfl, e3, fun p4 H4 f4 g4 => ?_⟩
        have zz : z = ((z.toNat : Nat) : Int) := by omega
        rw [zz, cut_take (by omega)] at g4
        refine ⟨_, rfl, by show 1 ≤ sizeLine; decide, fun p5 hp5 => ?_⟩
        have f5 := f4.new (o := .tup [.ref wa]) hp5
        have f45 : Frm [] H4 (upd H4 p5 (.tup [.ref wa])) := frm_new hp5
        refine ⟨p4, p5, _, _, rfl, rfl, f45.tp _ _ g4, upd_same, by rw [List.length_take, el3]; have := g.n8; simp; omega, fun p6 H6 f6 g6 => ?_⟩
        have f36 := f5.tr f6
        have hb6 := f36.ins hb3 (fun z => nomatch z)
        refine ⟨_, rfl, b, A.C, dx3, _, _, rfl, hb6, T.cl, T.nR, lkR _ _ _ _, _, rfl, _, _, rfl, rfl, _, rfl, r3, ps3, rfl, f36.tp _ _ e3, fun p7 H7 f7 g7 => ?_⟩
        have e1 : z + 1 = ((z.toNat + 1 : Nat) : Int) := by omega
        rw [e1, cut_drop] at g7
        refine ⟨p6, p7, _, _, rfl, rfl, f7.tp _ _ g6, g7, by rw [List.length_append, List.length_take, List.length_drop, el3]; have := g.n8; simp; omega, fun p8 H8 f8 g8 => ?_⟩
        have f38 := f36.tr (f7.tr f8)
        have bx8 := bx3.frm0 f38
        have hb8 := f38.ins hb3 (fun z => nomatch z)
        have f08 := f03.tr0 f38
        refine ⟨_, rfl, b, A.C, dx3, _, rfl, hb8, T.cl, T.nR, flen _ _ _ _, ?_⟩
        rw [flds_putR]
        refine q3 _ ns hpo rfl _ (f08.put (.inr (by simp)) (pl_ins hb8)) (bx8.setRA (ra := (x.R.set z.toNat ns, x.A)) hb8 ?_ (hI3.frm f38))
        refine ⟨_, g8, ?_⟩
        rw [List.append_assoc, List.singleton_append, set_cut (by omega)]
        exact pd_set ⟨wa, rfl, (hns.frm f08)⟩ (Paired.mapP pd3 fun v ns' h => h.frm f38)
    · have hbe' : bel n v = false := by rw [g.lR] at hbe; exact hbe
      exact q1 (personOf_no hbe') d _ (xd_new hd) upd_same
theorem sc_row_copy : FnScope ["self", "found"] ["self"] (defScope s_row_copy) := ⟨rfl, rfl, rfl, by decide +kernel, rfl, by decide +kernel, by decide +kernel⟩
theorem ok_row_copy (T : Tx K mg A) (D : MethAt K A.C "copy" "LiveRow.copy" s_row_copy) (D1 : RowInit P w K mg base 5 A.C ["self", "rankings", "arrangement"] "arrangement" (spInit A.C)) :
    Dm P w K mg base CX0 7 A.C "copy" ["self"] (spRowCopy A.C) := by
  refine Dm.of0 D (fun _ _ _ _ _ _ us hl => match us, hl with | [_], _ => rfl) sc_row_copy (fun vs H Q E h => ?_) (fun f cdv A' outer s H vs Q E hr h => ?_)
  · obtain ⟨b, c, s, n, m, x0, x, rfl, _⟩ := h
    rfl
  · obtain ⟨b, c, s, n, m, x0, x, rfl, bx, g, q⟩ := h
    obtain ⟨dx, r, a, hb, hT, hI⟩ := bx.ob
    obtain ⟨cs, hc, pc⟩ := bx.ch
    obtain ⟨ss, hs, ps⟩ := bx.st
    have nd := sc_row_copy.nd
    refine ⟨_, pss_cons (ps_set (i := 1) nd rfl (.inl rfl) (pe_rowK D1 hr T.mgC (pa_cons (pe_fld (pv 0) rfl) pa_nil) (pk_cons (pe_fld (pv 0) rfl) pk_nil)))
      (pss_cons (ps_fld (pv 1) (pe_callTy call_list_of (by rfl) T.list (by decide +kernel) (pa_cons (pe_fld (pv 0) rfl) pa_nil)) rfl)
      (pss_cons (ps_fld (pv 1) (pe_callTy call_list_of (by rfl) T.list (by decide +kernel) (pa_cons (pe_fld (pv 0) rfl) pa_nil)) rfl)
      (pss_one (ps_ret (pv 1))))), ?_⟩
    refine ⟨_, rfl, b, A.C, dx, _, _, rfl, hb, T.cl, T.nR, lkR _ _ _ _, _, rfl, b, A.C, dx, _, _, rfl, hb, T.cl, T.nA, lkA _ _ _ _, _, _, rfl, rfl, r, n, x.ra, rfl, hT, .inr ⟨a, rfl, hI⟩, g.n1, g.n8, g.val, fun b1 c1 s1 H1 nb nc ns f1 bx1 => ?_⟩
    have hb1 := f1.ins hb (fun z => nomatch z)
    have hc1 := f1.lst hc (fun z => nomatch z)
    obtain ⟨dx1, r1, a1, hx1, hT1, hI1⟩ := bx1.ob
    have nbb : b ≠ b1 := ne_of_none hb nb
    refine ⟨_, rfl, b, A.C, dx, _, _, rfl, hb1, T.cl, T.nC, lkC _ _ _ _, c, _, rfl, .inl (SqL.of hc1), fun c2 hc2 => ?_⟩
    have f2 := f1.new (o := .lst cs) hc2
    have hx2 : (upd H1 c2 (.lst cs)) b1 = some (.ins A.C dx1 (flds r1 a1 c1 s1)) := by rw [upd_ne (ne_of_none hx1 hc2)]; exact hx1
    refine ⟨_, rfl, b1, A.C, dx1, _, rfl, hx2, T.cl, T.nC, flen _ _ _ _, ?_⟩
    rw [flds_putC]
    have f3 := f2.put (o := .ins A.C dx1 (flds r1 a1 c2 s1)) (.inl nb) (pl_ins hx2)
    have hb3 := f3.ins hb (fun z => nomatch z)
    have hs3 := f3.lst hs (fun z => nomatch z)
    refine ⟨_, rfl, b, A.C, dx, _, _, rfl, hb3, T.cl, T.nS, lkS _ _ _ _, s, _, rfl, .inl (SqL.of hs3), fun s2 hs2 => ?_⟩
    have f4 := f3.new (o := .lst ss) hs2
    have nbs : b1 ≠ s2 := ne_of_none upd_same hs2
    refine ⟨_, rfl, b1, A.C, dx1, _, rfl, by rw [upd_ne nbs, upd_same], T.cl, T.nS, flen _ _ _ _, ?_⟩
    rw [flds_putS]
    have f5 := f4.put (p := b1) (o := .ins A.C dx1 (flds r1 a1 c2 s2)) (.inl nb) (by rw [upd_ne nbs, upd_same]; exact True.intro)
    have nbc : b1 ≠ c2 := ne_of_none hx1 hc2
    have hcc : (upd (upd H1 c2 (.lst cs)) b1 (.ins A.C dx1 (flds r1 a1 c2 s1))) c2 = some (.lst cs) := by rw [upd_ne (Ne.symm nbc), upd_same]
    have ncs : c2 ≠ s2 := ne_of_none hcc hs2
    have g1 : Frm [b1] H1 (upd (upd (upd (upd H1 c2 (.lst cs)) b1 (.ins A.C dx1 (flds r1 a1 c2 s1))) s2 (.lst ss)) b1 (.ins A.C dx1 (flds r1 a1 c2 s2))) :=
      ((((FrmT.refl H1).new (o := .lst cs) hc2).put (o := .ins A.C dx1 (flds r1 a1 c2 s1)) (.inr (by simp)) (pl_ins hx2)).new hs2).put (.inr (by simp)) (by rw [upd_ne nbs, upd_same]; exact True.intro)
    refine ⟨_, rfl, q b1 c2 s2 _ nb (f1.tk _ hc2) (f3.tk _ hs2) f5 ⟨⟨dx1, r1, a1, upd_same, hT1.frm g1, hI1.frm g1⟩, ⟨cs, ?_, pdD pc f5⟩, ⟨ss, ?_, pdS ps f5⟩, ncs⟩⟩
    · rw [upd_ne (Ne.symm nbc), upd_ne ncs]; exact hcc
    · rw [upd_ne (Ne.symm nbs), upd_same]
end
end Sw
set_option maxHeartbeats 4000000
/-! Swaprow: the law's draws -/
namespace L2
theorem ixN_nat {n j : Nat} (h : j < n) : ixN n (j : Int) = some j := by
  unfold ixN
  rw [if_pos (by omega), if_pos (by omega)]
  simp
theorem ixN_of {n j : Nat} {z : Int} (e : z = (j : Int)) (h : j < n) : ixN n z = some j := by rw [e]; exact ixN_nat h
end L2
namespace Sw
open PySem L2
section
variable {P : Program} {w : World} {K : PySem.W.Frag} {mg : Str → Option Value} {base : Heap} {A : Ad}
theorem sc_mixed : FnScope ["_law_cell", "_law_n", "_law_turned"] ["_law_cell", "_law_n"] (defScope s_L_mixed) := ⟨rfl, rfl, rfl, by decide +kernel, rfl, by decide +kernel, by decide +kernel⟩
theorem ok_mixed (D : DefAt K mg "_law_mixed" s_L_mixed) : Df P w K mg base CX0 1 "_law_mixed" ["_law_cell", "_law_n"] spMixed := by
  refine Df.of0 D (fun _ _ _ _ _ _ us hl => match us, hl with | [_, _], _ => rfl) sc_mixed (fun vs H Q E h => ?_) (fun f cdv A' outer s H vs Q E hr h => ?_)
  · obtain ⟨c, n, rfl, _⟩ := h
    rfl
  · obtain ⟨c, n, rfl, c0, c1, n0, n1, q⟩ := h
    refine ⟨_, pss_cons (ps_set (i := 2) sc_mixed.nd rfl (.inl rfl) (pe_op op_add (pe_op op_add (pe_op op_mod (pe_op op_mul (pe_op op_mul (pv 0) (pe_op op_add pe_int (pe_op op_mul pe_int (pv 1)))) pe_int) pe_int) (pe_op op_mul (pe_op op_mul pe_int (pv 1)) (pv 1))) (pe_op op_mul pe_int (pv 1))))
      (pss_one (ps_ret (pe_op op_fdiv (pe_op op_mod (pe_op op_mul (pv 2) pe_int) pe_int) pe_int))), ?_⟩
    refine ⟨_, rfl, _, rfl, _, _, rfl, rfl, .inl ⟨by decide, by decide⟩, _, _, rfl, rfl, _, _, rfl, rfl, .inl ⟨by omega, by omega⟩, _, _, rfl, rfl, .inr ⟨by decide, by decide⟩, _, _, rfl, rfl, (by show (0 : Int) < 2147483647; decide), ?_⟩
    refine ⟨_, rfl, _, _, rfl, rfl, .inl ⟨by decide, by decide⟩, _, rfl, _, _, rfl, rfl, .inr ⟨by omega, by omega⟩, _, _, rfl, rfl, ?_⟩
    refine ⟨_, rfl, _, _, rfl, rfl, .inl ⟨by decide, by decide⟩, _, _, rfl, rfl, ?_⟩
    refine ⟨_, rfl, _, _, rfl, rfl, .inr ⟨by decide, by decide⟩, _, _, rfl, rfl, (by show (0 : Int) < 2147483629; decide), _, _, rfl, rfl, ⟨by decide, by decide⟩, ?_⟩
    refine q _ ?_ ?_
    · generalize c * (1 + 2 * n) * 48271 % 2147483647 + 7919 * n * n + 104729 * n = t
      omega
    · generalize c * (1 + 2 * n) * 48271 % 2147483647 + 7919 * n * n + 104729 * n = t
      omega
theorem seqL_frm {TP : List (Addr × Str) → Prop} {fs : List Addr} {H H1 : Hp} {a : Addr} {xs : List V} (h : SqL K H a xs) (f : FrmT TP [] H H1) : SqL K H1 a xs := by
  rcases h with (h | ⟨o, h⟩) | h
  · exact .inl (.inl (f.kp _ _ h (fun z => nomatch z) (fun _ z => nomatch z)))
  · exact .inl (.inr ⟨o, f.kp _ _ h (fun z => nomatch z) (fun _ z => nomatch z)⟩)
  · exact .inr h
theorem set_rng {cs : List Int} {j : Nat} {z : Int} (h : ∀ c ∈ cs, 0 ≤ c ∧ c < 2147483648) (h0 : 0 ≤ z) (h1 : z < 2147483648) : ∀ c ∈ cs.set j z, 0 ≤ c ∧ c < 2147483648 := fun c hc => by
  rcases List.mem_or_eq_of_mem_set hc with h2 | h2
  · exact h c h2
  · rw [h2]; exact ⟨h0, h1⟩
theorem vset {cs : List Int} {j : Nat} {z : Int} : (cs.map V.int).set j (.int z) = (cs.set j z).map V.int := by rw [List.map_set]
theorem vgt {cs : List Int} {j : Nat} (h : j < cs.length) : (cs.map V.int)[j]? = some (.int cs[j]) := by rw [List.getElem?_map, List.getElem?_eq_getElem h]; rfl
theorem sc_folded : FnScope ["_law_script", "_law_n", "_law_found", "_law_cell"] ["_law_script"] (defScope s_L_folded) := ⟨rfl, rfl, rfl, by decide +kernel, rfl, by decide +kernel, by decide +kernel⟩
theorem ok_folded (T : Tx K mg A) (D : DefAt K mg "_law_folded" s_L_folded) : Df P w K mg base CX0 1 "_law_folded" ["_law_script"] (spFolded K) := by
  refine Df.of0 D (fun _ _ _ _ _ _ us hl => match us, hl with | [_], _ => rfl) sc_folded (fun vs H Q E h => ?_) (fun f cdv A' outer s H vs Q E hr h => ?_)
  · obtain ⟨a, ns, rfl, _⟩ := h
    rfl
  · obtain ⟨a, ns, rfl, hS, hl, q⟩ := h
    have nd := sc_folded.nd
    refine ⟨_, pss_cons (ps_setLc (i := 2) (own := [("_law_n", 1)]) (g := gName 1) (tt := tYes) (by rfl) nd rfl rfl (sw_true rfl rfl rfl (by decide +kernel)) (pi_range1 rfl T.range (pa_cons pe_int pa_nil)) (blkOk_by (own := [("_law_n", 1)]) (N := ["_law_script", "_law_n", "_law_found", "_law_cell"]) (sc := defScope s_L_folded) (by decide +kernel))
          (fun _ _ _ _ _ => pg_name (i := 1) nd rfl (Or.inl rfl)) (fun _ _ _ _ _ => pts_nil) (fun _ _ _ _ _ => pe_op op_add pe_int (pv 1)))
      (pss_cons (ps_for PassesOwn.never rfl (pi_enum (by rfl) T.enumerate (pa_cons (pv 0) pa_nil)) (pg_tup rfl (pgs_cons (pg_name (i := 1) nd rfl (.inl rfl)) (pgs_cons (pg_name (i := 3) nd rfl (.inl rfl)) pgs_nil)))
        (pss_one (ps_asg (pe_op op_mod (pe_op op_add (pe_op op_mul (pe_ix ix_list (pv 2) (pe_op op_mod (pv 1) pe_int) (fun _ _ => rfl)) pe_int) (pv 3)) pe_int) (pg_sub (pv 2) (pe_op op_mod (pv 1) pe_int) set_list))))
      (pss_cons (ps_for PassesOwn.never rfl (pi_range2 (by rfl) T.range (pa_cons pe_int (pa_cons pe_int pa_nil))) (pg_name (i := 1) nd rfl (.inl rfl))
        (pss_one (ps_asg (pe_op op_mod (pe_op op_add (pe_ix ix_list (pv 2) (pv 1) (fun _ _ => rfl)) (pe_op op_mul (pe_ix ix_list (pv 2) (pe_op op_sub (pv 1) pe_int) (fun _ _ => rfl)) pe_int)) pe_int) (pg_sub (pv 2) (pv 1) set_list))))
      (pss_one (ps_ret (pv 2))))), ?_⟩
    refine ⟨64, rfl, by decide, by decide, fun D1 hD => lc_range (lo := 0) (n := 64) (fun i H' => Frm [] H H' ∧ H' D1 = some (.lst ((List.range i).map fun j : Nat => V.int (17 + (j : Nat))))) ⟨frm_new hD, upd_same⟩ (fun i H' hi z => ?_) (fun H' z => ?_)⟩
    · obtain ⟨f1, g1⟩ := z
      refine ⟨rfl, _, rfl, _, _, rfl, rfl, _, g1, by rw [List.length_map, List.length_range]; exact small1000 (by omega), f1.put (.inl hD) (pl_lst g1), ?_⟩
      rw [upd_same, List.range_succ, List.map_append, Int.zero_add]
      rfl
    · obtain ⟨f1, g1⟩ := z
      have e0 : (List.range 64).map (fun j : Nat => V.int (17 + (j : Nat))) = ((List.range 64).map fun j : Nat => (17 + (j : Int))).map V.int := by rw [List.map_map]; rfl
      rw [e0] at g1
      refine ⟨_, rfl, a, _, rfl, seqL_frm (fs := []) hS f1, for_it (walk_enum (K := K) (a := a) (xs := ns.map V.int)) (fun i σ H' => Frm [] H H' ∧ ∃ (u v : Option V) (cs : List Int), σ = [some (.ref a), u, some (.ref D1), v] ∧ H' D1 = some (.lst (cs.map V.int)) ∧ cs.length = 64 ∧ ∀ c ∈ cs, 0 ≤ c ∧ c < 2147483648)
        ⟨f1, none, none, _, rfl, g1, by rw [List.length_map, List.length_range], fun c hc => ?_⟩ (fun i σ H' _ z => seqL_frm (fs := []) hS z.1) (fun i x σ H1 H2 hi z y => ?_) (fun σ H' z => ?_)⟩
      · obtain ⟨j, hj, rfl⟩ := List.mem_map.mp hc
        have := List.mem_range.mp hj
        omega
      · obtain ⟨f2, u, v, cs, rfl, g2, hl2, hc2⟩ := z
        obtain ⟨T1, x1, y1, rfl, hn, rfl, ex, ey⟩ := y
        obtain rfl : V.int (i : Nat) = x1 := Option.some.inj ex
        replace ey : (ns.map V.int)[i]? = some y1 := ey
        rw [List.getElem?_map] at ey
        obtain ⟨z, hz, rfl⟩ := Option.map_eq_some_iff.mp ey
        have f3 := f2.new (o := .tup [.int (i : Nat), .int z]) hn
        have g3 : (upd H1 T1 (.tup [.int (i : Nat), .int z])) D1 = some (.lst (cs.map V.int)) := by rw [upd_ne (ne_of_none g2 hn)]; exact g2
        have e1 : ((i : Nat) : Int) % 64 = ((i % 64 : Nat) : Int) := by omega
        have hlt : i % 64 < cs.length := by omega
        refine ⟨T1, _, rfl, SqT.of upd_same, rfl, _, _, rfl, _, _, rfl, rfl, ?_⟩
        refine ⟨_, rfl, _, rfl, _, _, rfl, rfl, (by show (0 : Int) < 64; decide), D1, _, _, _, rfl, rfl, SqL.of g3, at_of e1 (vgt hlt), _, _, rfl, rfl, .inr ⟨by decide, by decide⟩, _, rfl, _, _, rfl, rfl, _, _, rfl, rfl, (by show (0 : Int) < 2147483647; decide), ?_⟩
        refine ⟨_, rfl, _, rfl, _, _, rfl, rfl, (by show (0 : Int) < 64; decide), D1, _, _, _, rfl, rfl, g3, ixN_of e1 (by rw [List.length_map]; exact hlt), ?_⟩
        rw [vset]
        refine ⟨f3.put (.inl hD) (pl_lst g3), _, _, _, rfl, upd_same, by rw [List.length_set]; exact hl2, set_rng hc2 (by omega) (by omega)⟩
      · obtain ⟨f2, u, v, cs, rfl, g2, hl2, hc2⟩ := z
        refine ⟨1, 64, rfl, by decide, for_range (lo := 1) (n := 63) (fun i σ H' => Frm [] H H' ∧ ∃ (u v : Option V) (cs : List Int), σ = [some (.ref a), u, some (.ref D1), v] ∧ H' D1 = some (.lst (cs.map V.int)) ∧ cs.length = 64 ∧ ∀ c ∈ cs, 0 ≤ c ∧ c < 2147483648)
          ⟨f2, u, v, cs, rfl, g2, hl2, hc2⟩ (fun i σ H1 hi z => ?_) (fun σ H1 z => ?_)⟩
        · obtain ⟨f3, u, v, cs, rfl, g3, hl3, hc3⟩ := z
          have e1 : (1 : Int) + ((i : Nat) : Int) = ((i + 1 : Nat) : Int) := by omega
          have e2 : ((i + 1 : Nat) : Int) - 1 = ((i : Nat) : Int) := by omega
          rw [e1]
          refine ⟨_, rfl, _, rfl, D1, _, _, _, rfl, rfl, SqL.of g3, atI_nat (vgt (by omega : i + 1 < cs.length)), _, rfl, _, rfl, _, _, rfl, rfl, D1, _, _, _, rfl, rfl, SqL.of g3, at_of e2 (vgt (by omega : i < cs.length)), _, _, rfl, rfl, .inr ⟨by decide, by decide⟩, _, _, rfl, rfl, _, _, rfl, rfl, (by show (0 : Int) < 2147483647; decide), ?_⟩
          refine ⟨_, rfl, _, rfl, D1, _, _, _, rfl, rfl, g3, ixN_nat (by rw [List.length_map]; omega), ?_⟩
          rw [vset]
          refine ⟨f3.put (.inl hD) (pl_lst g3), _, _, _, rfl, upd_same, by rw [List.length_set]; exact hl3, set_rng hc3 (by omega) (by omega)⟩
        · obtain ⟨f3, u, v, cs, rfl, g3, hl3, hc3⟩ := z
          exact ⟨_, rfl, q D1 H1 cs f3 hD g3 hl3 hc3⟩
end
end Sw
set_option maxHeartbeats 4000000
/-! Swaprow: draws -/
namespace Sw
open PySem L2
theorem kk1 : ¬ (Sum.inr "cells" : Key) = (Sum.inr "spot" : Key) := by decide +kernel
theorem kk2 : ¬ (Sum.inr "great" : Key) = (Sum.inr "spot" : Key) := by decide +kernel
theorem kk3 : ¬ (Sum.inr "cells" : Key) = (Sum.inr "great" : Key) := by decide +kernel
theorem dm_spot (a b c : V) : valV [((Sum.inr "cells" : Key), a), (Sum.inr "great", b), (Sum.inr "spot", c)] (Sum.inr "spot" : Key) = some c := by
  rw [valV_neg kk1, valV_neg kk2, valV_pos rfl]
theorem dm_great (a b c : V) : valV [((Sum.inr "cells" : Key), a), (Sum.inr "great", b), (Sum.inr "spot", c)] (Sum.inr "great" : Key) = some b := by
  rw [valV_neg kk3, valV_pos rfl]
theorem dm_cells (a b c : V) : valV [((Sum.inr "cells" : Key), a), (Sum.inr "great", b), (Sum.inr "spot", c)] (Sum.inr "cells" : Key) = some a := by
  rw [valV_pos rfl]
theorem dm_put (a b c v : V) : putK [((Sum.inr "cells" : Key), a), (Sum.inr "great", b), (Sum.inr "spot", c)] (Sum.inr "spot" : Key) v = [((Sum.inr "cells" : Key), a), (Sum.inr "great", b), (Sum.inr "spot", v)] := by
  unfold putK
  rw [if_pos (by simp)]
  simp only [List.map_cons, List.map_nil, if_neg kk1, if_neg kk2, if_true]
theorem dm_putG (a b c v : V) : putK [((Sum.inr "cells" : Key), a), (Sum.inr "great", b), (Sum.inr "spot", c)] (Sum.inr "great" : Key) v = [((Sum.inr "cells" : Key), a), (Sum.inr "great", v), (Sum.inr "spot", c)] := by
  unfold putK
  rw [if_pos (by simp)]
  simp only [List.map_cons, List.map_nil, if_neg kk3, if_neg (Ne.symm kk2), if_true]
theorem ints_nil_eqv : ∀ (ns : List Int), PyData.eqv (.list (ns.map PyData.int)) (.list []) = decide (ns = [])
  | [] => by simp [PyData.eqv, PyData.eqvAll]
  | d :: ds => by simp [PyData.eqv, PyData.eqvAll]
theorem sh_ints (ns : List Int) : Sh 3 (.list (ns.map PyData.int)) := sh_lst fun d hd => by
  obtain ⟨i, _, rfl⟩ := List.mem_map.mp hd
  exact (sh_int (k := 1) i)
theorem sh_nil1 : Sh 1 (.list []) := sh_lst fun d hd => by cases hd
section
variable {P : Program} {w : World} {K : PySem.W.Frag} {mg : Str → Option Value} {base : Heap} {A : Ad}
theorem sc_draw : FnScope ["_law_m", "_law_top", "_law_n", "_law_at", "_law_cell"] ["_law_m", "_law_top"] (defScope s_L_draw) := ⟨rfl, rfl, rfl, by decide +kernel, rfl, by decide +kernel, by decide +kernel⟩
theorem ok_draw (T : Tx K mg A) (D : DefAt K mg "_law_draw" s_L_draw) (D1 : Df P w K mg base CX0 1 "_law_mixed" ["_law_cell", "_law_n"] spMixed) : Df P w K mg base CX0 2 "_law_draw" ["_law_m", "_law_top"] spDraw := by
  refine Df.of0 D (fun _ _ _ _ _ _ us hl => match us, hl with | [_, _], _ => rfl) sc_draw (fun vs H Q E h => ?_) (fun f cdv A' outer s H vs Q E hr h => ?_)
  · obtain ⟨M, bd, top, rfl, _⟩ := h
    rfl
  · obtain ⟨M, bd, top, rfl, m, hbd, t1, t2, q⟩ := h
    have nd := sc_draw.nd
    have hu := hu_of hr
    obtain ⟨n, hn, hd⟩ := m.dm
    obtain ⟨cs, hc, lc, rc⟩ := m.cl
    obtain ⟨gs, hg, lg⟩ := m.g
    have ncd : M.cl ≠ M.dm := ne_of hc hd fun z => nomatch z
    have ngd : M.g ≠ M.dm := ne_of hg hd fun z => nomatch z
    refine ⟨_, pss_cons (ps_set (i := 2) nd rfl (.inl rfl) (pe_dget hu (pv 0) pe_str (fun _ _ => rfl)))
      (pss_cons (ps_dput hu (pv 0) pe_str (pe_op op_add (pv 2) pe_int) rfl)
      (pss_cons (ps_if (pt_cmpR (op_neD hr.units) (pe_dget hu (pv 0) pe_str (fun _ _ => rfl)) (pe_lst pa_nil) (nomark _))
        (pss_cons (ps_set (i := 3) nd rfl (.inl rfl) (pe_op op_mod (pv 2) (pe_len T.len (pe_dget hu (pv 0) pe_str (fun _ _ => rfl)))))
        (pss_cons (ps_set (i := 4) nd rfl (.inl rfl) (pe_ix ix_list (pe_dget hu (pv 0) pe_str (fun _ _ => rfl)) (pv 3) (fun _ _ => rfl)))
        (pss_one (ps_if (pt_cmpR op_gt (pv 4) pe_int (nomark _))
          (pss_cons (ps_asg (pe_op op_fdivN (pv 4) (pv 1)) (pg_sub (pe_dget hu (pv 0) pe_str (fun _ _ => rfl)) (pv 3) set_list))
          (pss_one (ps_ret (pe_op op_mod (pv 4) (pv 1))))) pss_nil)))) pss_nil)
      (pss_one (ps_ret (pe_op op_mod (pe_df D1 hr pass0 (pa_cons (pe_df D1 hr pass0 (pa_cons (pe_op op_add (pe_ix ix_list (pe_dget hu (pv 0) pe_str (fun _ _ => rfl)) (pe_op op_mod (pv 2) pe_int) (fun _ _ => rfl)) (pe_op op_mul pe_int (pe_op op_fdiv (pv 2) pe_int))) (pa_cons (pv 2) pa_nil))) (pa_cons (pe_op op_add (pv 2) pe_int) pa_nil))) (pv 1)))))), ?_⟩
    refine ⟨_, rfl, M.dm, _, rfl, dgetK (k := Sum.inr "spot") hd (dm_spot _ _ _), ?_⟩
    refine ⟨_, rfl, _, _, rfl, rfl, _, rfl, M.dm, _, rfl, DPut.k (k := Sum.inr "spot") hd (small1000 (by show 3 ≤ 1000; decide)), ?_⟩
    rw [dm_put]
    have f1 : Frm M.fs H (upd H M.dm (.dK [(Sum.inr "cells", .ref M.cl), (Sum.inr "great", .ref M.g), (Sum.inr "spot", .int ((n : Int) + 1))])) := (FrmT.refl H).put (.inr (by simp)) (pl_dk hd)
    generalize hH1 : upd H M.dm (.dK [(Sum.inr "cells", .ref M.cl), (Sum.inr "great", .ref M.g), (Sum.inr "spot", .int ((n : Int) + 1))]) = H1 at f1
    have hd1 : H1 M.dm = some (.dK [(Sum.inr "cells", .ref M.cl), (Sum.inr "great", .ref M.g), (Sum.inr "spot", .int ((n + 1 : Nat) : Int))]) := by rw [← hH1, upd_same]; rfl
    have hc1 : H1 M.cl = some (.lst (cs.map V.int)) := by rw [← hH1, upd_ne ncd]; exact hc
    have hg1 : H1 M.g = some (.lst (gs.map V.int)) := by rw [← hH1, upd_ne ngd]; exact hg
    refine ⟨_, rfl, M.dm, _, rfl, dgetK (k := Sum.inr "great") hd1 (dm_great _ _ _), by show 0 ≤ sizeLine; decide, fun l hl => ?_⟩
    have fl : Frm [] H1 (upd H1 l (.lst [])) := frm_new hl
    have f2 := f1.tr0 fl
    have hd2 := fl.dk hd1 (fun z => nomatch z)
    have hc2 := fl.lst hc1 (fun z => nomatch z)
    have hg2 := fl.lst hg1 (fun z => nomatch z)
    have m2 : MAt (upd H1 l (.lst [])) M (bd + 1) := ⟨⟨n + 1, by omega, hd2⟩, ⟨cs, hc2, lc, rc⟩, ⟨gs, hg2, lg⟩, m.ne⟩
    have fin : ∀ (u v : Option V), tRet (tOp (rI (fun _ j => 0 < j) fun i j => .int (i % j)) (tCall spMixed [] E0 (tCons (tCall spMixed [] E0 (tCons (tOp (rI0 fun i j => .int (i + j)) (tOp (rIxL K) (tDGet (tVar 0) (tC (.str "cells"))) (tOp (rI (fun _ j => 0 < j) fun i j => .int (i % j)) (tVar 2) (tC (.int 64)))) (tOp (rI CMul fun i j => .int (i * j)) (tC (.int 31)) (tOp (rI CDiv fun i j => .int (i / j)) (tVar 2) (tC (.int 64))))) (tCons (tVar 2) tNil))) (tCons (tOp (rI0 fun i j => .int (i + j)) (tVar 2) (tC (.int 7))) tNil))) (tVar 1))
        { nx := fun _ H' => Q .non H', rt := Q } [some (V.ref M.dm), some (V.int (top : Nat)), some (V.int (n : Nat)), u, v] (upd H1 l (.lst [])) := fun u v => by
      have e1 : ((n : Nat) : Int) % 64 = ((n % 64 : Nat) : Int) := by omega
      have hlt : n % 64 < cs.length := by omega
      have hr1 := rc _ (List.getElem_mem hlt)
      refine ⟨_, rfl, M.dm, _, rfl, dgetK (k := Sum.inr "cells") hd2 (dm_cells _ _ _), _, rfl, _, _, rfl, rfl, (by show (0 : Int) < 64; decide), M.cl, _, _, _, rfl, rfl, SqL.of hc2, at_of e1 (vgt hlt), ?_⟩
      refine ⟨_, rfl, _, _, rfl, rfl, ⟨by decide, by decide⟩, _, _, rfl, rfl, .inl ⟨by decide, by decide⟩, _, _, rfl, rfl, _, rfl, _, _, rfl, by omega, by omega, by omega, by omega, fun z z0 z1 => ?_⟩
      refine ⟨_, rfl, _, _, rfl, rfl, _, _, rfl, z0, by omega, by omega, by omega, fun y y0 y1 => ?_⟩
      refine ⟨_, rfl, _, _, rfl, rfl, (by show (0 : Int) < (top : Int); omega), ?_⟩
      have e2 : y % (top : Int) = (((y % (top : Int)).toNat : Nat) : Int) := by
        have := Int.emod_nonneg y (show (top : Int) ≠ 0 by omega)
        omega
      show Q (.int (y % (top : Int))) _
      rw [e2]
      refine q _ _ ?_ f2 m2
      have := Int.emod_lt_of_pos y (show 0 < (top : Int) by omega)
      omega
    refine ⟨.list (gs.map PyData.int), .list [], .lst (SqL.of hg2) (dp_ints gs), .lst (SqL.of upd_same) .nil, (sh_ints gs).shaped (by decide), sh_nil1.shaped (by decide), _, rfl, ?_⟩
    rw [ints_nil_eqv]
    by_cases hgs : gs = []
    · exact iteN (by rw [decide_eq_true hgs]; simp) (fin none none)
    · refine iteP (by rw [decide_eq_false hgs]; rfl) ?_
      have lpos : 0 < gs.length := List.length_pos_iff.mpr hgs
      have hlen : (gs.map V.int).length = gs.length := List.length_map ..
      refine ⟨_, rfl, _, rfl, M.dm, _, rfl, dgetK (k := Sum.inr "great") hd2 (dm_great _ _ _), M.g, _, rfl, .inl hg2, _, _, rfl, rfl, (by show (0 : Int) < ((gs.map V.int).length : Int); rw [hlen]; omega), ?_⟩
      have e1 : ((n : Nat) : Int) % (((gs.map V.int).length : Nat) : Int) = ((n % gs.length : Nat) : Int) := by rw [hlen]; exact (Int.natCast_emod n gs.length).symm
      have hlt : n % gs.length < gs.length := Nat.mod_lt _ lpos
      refine ⟨_, rfl, M.dm, _, rfl, dgetK (k := Sum.inr "great") hd2 (dm_great _ _ _), _, rfl, M.g, _, _, _, rfl, rfl, SqL.of hg2, at_of e1 (vgt hlt), ?_⟩
      refine ⟨_, rfl, _, _, rfl, rfl, _, rfl, ite2 (fun hpos => ?_) (fun _ => fin _ _)⟩
      refine ⟨_, rfl, _, rfl, _, _, rfl, rfl, ⟨by omega, by omega⟩, _, rfl, M.dm, _, rfl, dgetK (k := Sum.inr "great") hd2 (dm_great _ _ _), _, rfl, M.g, _, _, _, rfl, rfl, hg2, ixN_of e1 (by rw [hlen]; exact hlt), ?_⟩
      rw [vset]
      refine ⟨_, rfl, _, rfl, _, _, rfl, rfl, (by show (0 : Int) < (top : Int); omega), ?_⟩
      have e2 : gs[n % gs.length] % (top : Int) = (((gs[n % gs.length] % (top : Int)).toNat : Nat) : Int) := by
        have := Int.emod_nonneg gs[n % gs.length] (show (top : Int) ≠ 0 by omega)
        omega
      show Q (.int (gs[n % gs.length] % (top : Int))) _
      rw [e2]
      have f3 := f2.put (p := M.g) (o := .lst ((gs.set (n % gs.length) (gs[n % gs.length].fdiv (top : Int))).map V.int)) (.inr (by simp)) (pl_lst hg2)
      refine q _ _ ?_ f3 ⟨⟨n + 1, by omega, by rw [upd_ne (Ne.symm ngd)]; exact hd2⟩, ⟨cs, by rw [upd_ne m.ne]; exact hc2, lc, rc⟩, ⟨_, upd_same, by rw [List.length_set]; exact lg⟩, m.ne⟩
      have := Int.emod_lt_of_pos gs[n % gs.length] (show 0 < (top : Int) by omega)
      omega
theorem sc_begun : FnScope ["_law_script", "_law_m", "_law_cell"] ["_law_script"] (defScope s_L_begun) := ⟨rfl, rfl, rfl, by decide +kernel, rfl, by decide +kernel, by decide +kernel⟩
theorem dm_new (a b c : V) : mergeK [] [((Sum.inr "cells" : Key), a), (Sum.inr "great", b), (Sum.inr "spot", c)] = [((Sum.inr "cells" : Key), a), (Sum.inr "great", b), (Sum.inr "spot", c)] := by
  have h1 : putK ([] : List (Key × V)) (Sum.inr "cells" : Key) a = [((Sum.inr "cells" : Key), a)] := rfl
  have h2 : putK [((Sum.inr "cells" : Key), a)] (Sum.inr "great" : Key) b = [((Sum.inr "cells" : Key), a), (Sum.inr "great", b)] := by
    unfold putK; rw [if_neg (by simp only [List.any_cons, List.any_nil, decide_eq_false kk3, Bool.or_self]; decide)]; rfl
  have h3 : putK [((Sum.inr "cells" : Key), a), (Sum.inr "great", b)] (Sum.inr "spot" : Key) c = [((Sum.inr "cells" : Key), a), (Sum.inr "great", b), (Sum.inr "spot", c)] := by
    unfold putK; rw [if_neg (by simp only [List.any_cons, List.any_nil, decide_eq_false kk1, decide_eq_false kk2, Bool.or_self]; decide)]; rfl
  show putK (putK (putK ([] : List (Key × V)) (Sum.inr "cells" : Key) a) (Sum.inr "great" : Key) b) (Sum.inr "spot" : Key) c = _
  rw [h1, h2, h3]
theorem ok_begun (T : Tx K mg A) (D : DefAt K mg "_law_begun" s_L_begun) (D1 : Df P w K mg base CX0 1 "_law_folded" ["_law_script"] (spFolded K)) : Df P w K mg base CX0 2 "_law_begun" ["_law_script"] (spBegun K) := by
  refine Df.of0 D (fun _ _ _ _ _ _ us hl => match us, hl with | [_], _ => rfl) sc_begun (fun vs H Q E h => ?_) (fun f cdv A' outer s H vs Q E hr h => ?_)
  · obtain ⟨a, ns, rfl, _⟩ := h
    rfl
  · obtain ⟨a, ns, rfl, hS, hl, q⟩ := h
    have nd := sc_begun.nd
    have hu := hu_of hr
    refine ⟨_, pss_cons (ps_set (i := 1) nd rfl (.inl rfl) (pe_disp (pps_cons pe_str (pe_df D1 hr pass0 (pa_cons (pv 0) pa_nil)) (pps_cons pe_str (pe_lst pa_nil) (pps_cons pe_str pe_int pps_nil))) (by rfl) (by rfl) (fun z => by cases z) (by decide)))
      (pss_cons (ps_dput hu (pv 1) pe_str (pe_lc (own := [("_law_cell", 2)]) (g := gName 2) (tt := tYes) rfl nd (pi_list (pv 0)) (blkOk_by (own := [("_law_cell", 2)]) (N := ["_law_script", "_law_m", "_law_cell"]) (sc := defScope s_L_begun) (by decide +kernel))
          (fun _ _ _ _ _ => pg_name (i := 2) nd rfl (Or.inl rfl)) (fun _ _ _ _ _ => pts_nil) (fun _ _ _ _ _ => pe_ifExp (pt_cmpR op_ge (pv 2) (pe_op op_pow pe_int pe_int) (nomark _)) (pv 2) pe_int)) rfl)
      (pss_one (ps_ret (pv 1)))), ?_⟩
    intro p hp
    have f0 : Frm [] H (upd H p (.dK [])) := frm_new hp
    refine ⟨_, rfl, a, ns, rfl, seqL_frm (fs := []) hS f0, hl, fun cl H1 cs f1 hcl0 hcl lc rc => ?_⟩
    have hp1 := f1.dk (a := p) (xs := []) upd_same (fun z => nomatch z)
    refine ⟨by show 0 ≤ sizeLine; decide, fun g hg => ⟨f1.tr (frm_new hg) |>.dk upd_same (fun z => nomatch z), [(Sum.inr "cells", .ref cl), (Sum.inr "great", .ref g), (Sum.inr "spot", .int 0)], rfl, by show 3 ≤ 15; decide, ?_⟩⟩
    rw [dm_new]
    have f2 := (f0.tr f1).new (o := .lst []) hg
    have hp2 : (upd H1 g (.lst [])) p = some (.dK []) := by rw [upd_ne (ne_of_none hp1 hg)]; exact hp1
    have f3 := f2.put (p := p) (o := .dK [(Sum.inr "cells", .ref cl), (Sum.inr "great", .ref g), (Sum.inr "spot", .int 0)]) (.inl hp) (pl_dk hp2)
    have npc : cl ≠ p := ne_of hcl hp1 fun z => nomatch z
    have ncg : cl ≠ g := ne_of_none hcl hg
    have hcl3 : (upd (upd H1 g (.lst [])) p (.dK [(Sum.inr "cells", .ref cl), (Sum.inr "great", .ref g), (Sum.inr "spot", .int 0)])) cl = some (.lst (cs.map V.int)) := by rw [upd_ne npc, upd_ne ncg]; exact hcl
    refine ⟨_, rfl, a, rfl, ⟨_, seqL_frm (fs := []) hS f3⟩, fun D2 hD => lc_list (K := K) (a := a) (xs := ns.map V.int) (fun i H' => Frm [] (upd (upd H1 g (.lst [])) p (.dK [(Sum.inr "cells", .ref cl), (Sum.inr "great", .ref g), (Sum.inr "spot", .int 0)])) H' ∧ ∃ gs : List Int, H' D2 = some (.lst (gs.map V.int)) ∧ gs.length = i)
      ⟨frm_new hD, [], upd_same, rfl⟩ (fun i H' _ z => seqL_frm (fs := []) hS (f3.tr z.1)) (fun i x H' hx z => ?_) (fun H' z => ?_)⟩
    · obtain ⟨f4, gs, g4, lg⟩ := z
      rw [List.getElem?_map] at hx
      obtain ⟨y, hy, rfl⟩ := Option.map_eq_some_iff.mp hx
      have hil := (List.getElem?_eq_some_iff.mp hy).1
      have fin : ∀ z : Int, ∃ acc, H' D2 = some (.lst acc) ∧ acc.length < sizeLine ∧ (Frm [] (upd (upd H1 g (.lst [])) p (.dK [(Sum.inr "cells", .ref cl), (Sum.inr "great", .ref g), (Sum.inr "spot", .int 0)])) (upd H' D2 (.lst (acc ++ [.int z]))) ∧ ∃ gs : List Int, (upd H' D2 (.lst (acc ++ [.int z]))) D2 = some (.lst (gs.map V.int)) ∧ gs.length = i + 1) := fun z =>
        ⟨_, g4, by rw [List.length_map]; exact small1000 (by omega), f4.put (.inl hD) (pl_lst g4), gs ++ [z], by rw [upd_same, List.map_append]; rfl, by rw [List.length_append, lg]; rfl⟩
      refine ⟨rfl, _, rfl, _, _, rfl, rfl, ⟨by decide, by decide, by decide⟩, _, _, rfl, rfl, _, rfl, ite2 (fun _ => ?_) (fun _ => ?_)⟩
      · exact ⟨_, rfl, fin y⟩
      · exact fin 0
    · obtain ⟨f4, gs, g4, lg⟩ := z
      have hp4 := f4.dk (a := p) upd_same (fun z => nomatch z)
      refine ⟨_, rfl, p, _, rfl, DPut.k (k := Sum.inr "great") hp4 (small1000 (by show 3 ≤ 1000; decide)), ?_⟩
      rw [dm_putG]
      have f5 := (f3.tr f4).put (p := p) (o := .dK [(Sum.inr "cells", .ref cl), (Sum.inr "great", .ref D2), (Sum.inr "spot", .int 0)]) (.inl hp) (pl_dk hp4)
      have ndp : D2 ≠ p := ne_of g4 hp4 fun z => nomatch z
      refine ⟨_, rfl, q ⟨p, cl, D2⟩ _ f5 ⟨⟨0, Nat.le_refl _, upd_same⟩, ⟨cs, ?_, lc, rc⟩, ⟨gs, ?_, ?_⟩, ne_of_none hcl3 hD⟩⟩
      · show (upd H' p _) cl = _
        rw [upd_ne npc]; exact f4.lst hcl3 (fun z => nomatch z)
      · show (upd H' p _) D2 = _
        rw [upd_ne ndp]; exact g4
      · rw [lg, List.length_map]; exact hl
theorem sc_mixed_up : FnScope ["_law_m", "_law_things", "_law_stock", "_law_found", "_law_n"] ["_law_m", "_law_things"] (defScope s_L_mixed_up) := ⟨rfl, rfl, rfl, by decide +kernel, rfl, by decide +kernel, by decide +kernel⟩
theorem erase_perm : ∀ {l : List Int} {k : Nat} (h : k < l.length), (l[k] :: l.eraseIdx k).Perm l
  | _ :: _, 0, _ => List.Perm.refl _
  | x :: l, k + 1, h => (List.Perm.swap x _ _).trans ((erase_perm (l := l) (k := k) (Nat.lt_of_succ_lt_succ h)).cons x)
theorem seqIx {n j : Nat} (h : j < n) : seqIndex? (j : Int) n = some j := (ixN_seq (ixN_nat h)).1
theorem ok_mixed_up (T : Tx K mg A) (D : DefAt K mg "_law_mixed_up" s_L_mixed_up) (D1 : Df P w K mg base CX0 2 "_law_draw" ["_law_m", "_law_top"] spDraw) : Df P w K mg base CX0 3 "_law_mixed_up" ["_law_m", "_law_things"] spMixedUp := by
  refine Df.of0 D (fun _ _ _ _ _ _ us hl => match us, hl with | [_, _], _ => rfl) sc_mixed_up (fun vs H Q E h => ?_) (fun f cdv A' outer s H vs Q E hr h => ?_)
  · obtain ⟨M, bd, l, xs, rfl, _⟩ := h
    rfl
  · obtain ⟨M, bd, l, xs, rfl, m, hbd, hl, hx, q⟩ := h
    have nd := sc_mixed_up.nd
    refine ⟨_, pss_cons (ps_par (i := 2) (j := 3) (by rfl) nd rfl rfl (by decide) rfl rfl (pa_cons (pe_callTy call_list_of (by rfl) T.list (by decide +kernel) (pa_cons (pv 1) pa_nil)) (pa_cons (pe_lst pa_nil) pa_nil)) (by rfl))
      (pss_cons (ps_for PassesOwn.never rfl (pi_range1 rfl T.range (pa_cons (pe_len T.len (pv 2)) pa_nil)) (pg_name (i := 4) nd rfl (.inl rfl))
        (pss_one (ps_expr (pe_bm PySem.F.plainAttrs_list PySem.F.slot_list_append PySem.F.type_list_append mt_append (pv 3) (pa_cons
          (pe_bm PySem.F.plainAttrs_list PySem.F.slot_list_pop PySem.F.type_list_pop mt_popAt (pv 2) (pa_cons (pe_df D1 hr pass0 (pa_cons (pv 0) (pa_cons (pe_len T.len (pv 2)) pa_nil))) pa_nil)) pa_nil)))))
      (pss_one (ps_ret (pv 3)))), ?_⟩
    refine ⟨_, rfl, l, _, rfl, .inl (SqL.of hl), fun s1 hs1 => ⟨by show 0 ≤ sizeLine; decide, fun d1 hd1 => ⟨_, _, rfl, ?_⟩⟩⟩
    have f1 : Frm M.fs H (upd H s1 (.lst (xs.map V.int))) := frm_new hs1
    have f2 := f1.new (o := .lst []) hd1
    have hs2 : (upd (upd H s1 (.lst (xs.map V.int))) d1 (.lst [])) s1 = some (.lst (xs.map V.int)) := by rw [upd_ne (ne_of_none upd_same hd1), upd_same]
    have hd0 : H d1 = none := f1.tk _ hd1
    have nsd : s1 ≠ d1 := ne_of_none upd_same hd1
    obtain ⟨n0, hn0, hdm⟩ := m.dm
    obtain ⟨cs0, hcl, _⟩ := m.cl
    obtain ⟨gs0, hgl, _⟩ := m.g
    have m2 : MAt (upd (upd H s1 (.lst (xs.map V.int))) d1 (.lst [])) M bd := (m.frm0 (frm_new (TP := fun _ => True) hs1)).frm0 (frm_new (TP := fun _ => True) hd1)
    have s_no : s1 ∉ M.fs := by
      intro h
      simp at h
      rcases h with h | h
      · rw [h, hdm] at hs1; cases hs1
      · rw [h, hgl] at hs1; cases hs1
    have d_no : d1 ∉ M.fs := by
      intro h
      simp at h
      rcases h with h | h
      · rw [h, hdm] at hd0; cases hd0
      · rw [h, hgl] at hd0; cases hd0
    have outs : ∀ z ∈ [s1, d1], M.dm ≠ z ∧ M.cl ≠ z ∧ M.g ≠ z := by
      intro z hz
      have hz0 : H z = none := by
        rcases List.mem_cons.mp hz with e | e
        · rw [e]; exact hs1
        · rw [List.mem_singleton.mp e]; exact hd0
      exact ⟨ne_of_none hdm hz0, ne_of_none hcl hz0, ne_of_none hgl hz0⟩
    have hlx : (xs.map V.int).length = xs.length := List.length_map ..
    refine ⟨_, rfl, s1, _, rfl, .inl hs2, _, rfl, by omega, by rw [hlx]; omega, ?_⟩
    rw [hlx, Int.toNat_natCast]
    refine for_range (lo := 0) (n := xs.length) (fun i σ H' => Frm M.fs H H' ∧ MAt H' M (bd + i) ∧ ∃ (u : Option V) (st fd : List Int), σ = [some (.ref M.dm), some (.ref l), some (.ref s1), some (.ref d1), u] ∧ H' s1 = some (.lst (st.map V.int)) ∧ H' d1 = some (.lst (fd.map V.int)) ∧ st.length + i = xs.length ∧ (fd ++ st).Perm xs)
      ⟨f2, m2, none, xs, [], rfl, hs2, upd_same, by omega, List.Perm.refl _⟩ (fun i σ H1 hi z => ?_) (fun σ H1 z => ?_)
    · obtain ⟨f3, m3, u, st, fd, rfl, gs1, gd1, hlen, hperm⟩ := z
      have hls : (st.map V.int).length = st.length := List.length_map ..
      refine ⟨_, rfl, .inl ⟨rfl, _, SqL.of gd1⟩, _, rfl, .inl ⟨rfl, _, SqL.of gs1⟩, _, rfl, _, rfl, s1, _, rfl, .inl gs1, M, bd + i, st.length, by rw [hls]; rfl, m3, by omega, by omega, by omega, fun k H2 hk f4 m4 => ?_⟩
      have gs2 := f4.lst gs1 s_no
      have gd2 := f4.lst gd1 d_no
      refine ⟨s1, _, _, k, _, rfl, rfl, gs2, by omega, by omega, by rw [hls]; exact seqIx hk, vgt hk, ?_⟩
      have f5 := (f3.tr f4).put (p := s1) (o := .lst ((st.map V.int).eraseIdx k)) (.inl hs1) (pl_lst gs2)
      have gd3 : (upd H2 s1 (.lst ((st.map V.int).eraseIdx k))) d1 = some (.lst (fd.map V.int)) := by rw [upd_ne (Ne.symm nsd)]; exact gd2
      have hpf := hperm.length_eq
      rw [List.length_append] at hpf
      refine ⟨d1, _, _, rfl, rfl, gd3, by rw [List.length_map]; exact small1000 (by omega), f5.put (.inl hd0) (pl_lst gd3), ?_, _, st.eraseIdx k, fd ++ [st[k]], rfl, ?_, ?_, by rw [List.length_eraseIdx_of_lt hk]; omega, ?_⟩
      · have o1 := outs s1 (by simp)
        have o2 := outs d1 (by simp)
        have g1 : Frm [s1, d1] H2 (upd (upd H2 s1 (.lst ((st.map V.int).eraseIdx k))) d1 (.lst (fd.map V.int ++ [.int st[k]]))) := ((FrmT.refl H2).put (.inr (by simp)) (pl_lst gs2)).put (.inr (by simp)) (pl_lst gd3)
        exact m4.frm g1 (by simp [o1.1, o2.1]) (by simp [o1.2.1, o2.2.1]) (by simp [o1.2.2, o2.2.2])
      · rw [upd_ne nsd, upd_same, erase_mapI]
      · rw [upd_same, List.map_append]; rfl
      · refine List.Perm.trans ?_ hperm
        rw [List.append_assoc, List.singleton_append]
        exact List.Perm.append_left _ (erase_perm hk)
    · obtain ⟨f3, m3, u, st, fd, rfl, gs1, gd1, hlen, hperm⟩ := z
      have : st = [] := List.eq_nil_of_length_eq_zero (by omega)
      subst this
      rw [List.append_nil] at hperm
      exact ⟨_, rfl, q fd d1 H1 hperm hd0 gd1 f3 (m3.mono (by omega))⟩
end
end Sw
set_option maxHeartbeats 4000000
/-! Swaprow: the walked rows -/
namespace Sw
open PySem L2
theorem MAt.outs {H : Hp} {M : Mm} {bd : Nat} {z : Addr} (m : MAt H M bd) (hz : H z = none) : M.dm ≠ z ∧ M.cl ≠ z ∧ M.g ≠ z := by
  obtain ⟨n0, hn0, hdm⟩ := m.dm
  obtain ⟨cs0, hcl, _⟩ := m.cl
  obtain ⟨gs0, hgl, _⟩ := m.g
  exact ⟨ne_of_none hdm hz, ne_of_none hcl hz, ne_of_none hgl hz⟩
theorem MAt.nofs {H : Hp} {M : Mm} {bd : Nat} {z : Addr} (m : MAt H M bd) (hz : H z = none) : z ∉ M.fs := fun h => by
  obtain ⟨a, b, c⟩ := m.outs hz
  rcases List.mem_cons.mp h with h | h
  · exact a h.symm
  · exact c (List.mem_singleton.mp h).symm
theorem MAt.puts {H H2 : Hp} {M : Mm} {bd bd2 : Nat} {z : Addr} {o : HO} (m2 : MAt H2 M bd2) (m : MAt H M bd) (hz : H z = none) : MAt (upd H2 z o) M bd2 := by
  obtain ⟨a, b, c⟩ := m.outs hz
  obtain ⟨n, hn, hdm⟩ := m2.dm
  obtain ⟨cs, hcl, r⟩ := m2.cl
  obtain ⟨gs, hgl, r2⟩ := m2.g
  exact ⟨⟨n, hn, by rw [upd_ne a]; exact hdm⟩, ⟨cs, by rw [upd_ne b]; exact hcl, r⟩, ⟨gs, by rw [upd_ne c]; exact hgl, r2⟩, m2.ne⟩
/-- lists of ints that are new since H0 -/
structure HeldAt (H0 H1 : Hp) (as : List Addr) (held : List (List Int)) : Prop where
  len : as.length = held.length
  at_ : ∀ (i : Nat) a l, as[i]? = some a → held[i]? = some l → H1 a = some (.lst (l.map V.int)) ∧ H0 a = none
theorem nodupA {l : List Addr} (h : l.Nodup) {i j : Nat} {x : Addr} (a : l[i]? = some x) (b : l[j]? = some x) : i = j := by
  obtain ⟨h1, e1⟩ := List.getElem?_eq_some_iff.mp a
  obtain ⟨h2, e2⟩ := List.getElem?_eq_some_iff.mp b
  exact (List.getElem_inj h).mp (e1.trans e2.symm)
theorem HeldAt.ex {H0 H1 : Hp} {as : List Addr} {held : List (List Int)} (h : HeldAt H0 H1 as held) {i : Nat} (hi : i < held.length) : ∃ a l, as[i]? = some a ∧ held[i]? = some l ∧ H1 a = some (.lst (l.map V.int)) ∧ H0 a = none := by
  have hj : i < as.length := by rw [h.len]; exact hi
  exact ⟨as[i], held[i], List.getElem?_eq_getElem hj, List.getElem?_eq_getElem hi, h.at_ _ _ _ (List.getElem?_eq_getElem hj) (List.getElem?_eq_getElem hi)⟩
theorem HeldAt.frm {H0 H1 H2 : Hp} {as : List Addr} {held : List (List Int)} (h : HeldAt H0 H1 as held) (f : ∀ a ∈ as, ∀ o, H1 a = some o → H2 a = some o) : HeldAt H0 H2 as held :=
  ⟨h.len, fun i a l e1 e2 => let ⟨p, q⟩ := h.at_ i a l e1 e2; ⟨f a (List.mem_of_getElem? e1) _ p, q⟩⟩
theorem HeldAt.put {H0 H1 : Hp} {as : List Addr} {held : List (List Int)} {p : Nat} {a : Addr} {l : List Int} (h : HeldAt H0 H1 as held) (hd : as.Nodup) (hp : as[p]? = some a) : HeldAt H0 (upd H1 a (.lst (l.map V.int))) as (held.set p l) :=
  ⟨by rw [List.length_set]; exact h.len, fun i b k e1 e2 => by
    have hpl : p < held.length := by rw [← h.len]; exact (List.getElem?_eq_some_iff.mp hp).1
    by_cases e : i = p
    · subst e
      rw [hp] at e1
      obtain rfl := Option.some.inj e1
      rw [List.getElem?_set, if_pos rfl, if_pos hpl] at e2
      obtain rfl := Option.some.inj e2
      exact ⟨upd_same, (h.at_ _ _ _ hp (List.getElem?_eq_getElem hpl)).2⟩
    · rw [List.getElem?_set, if_neg (fun z => e z.symm)] at e2
      obtain ⟨q1, q2⟩ := h.at_ _ _ _ e1 e2
      have n : b ≠ a := fun z => e (nodupA hd (z ▸ e1) hp)
      exact ⟨by rw [upd_ne n]; exact q1, q2⟩⟩
theorem HeldAt.snoc {H0 H1 : Hp} {as : List Addr} {held : List (List Int)} {a : Addr} {l : List Int} (h : HeldAt H0 H1 as held) (h1 : H1 a = some (.lst (l.map V.int))) (h0 : H0 a = none) : HeldAt H0 H1 (as ++ [a]) (held ++ [l]) :=
  ⟨by rw [List.length_append, List.length_append, h.len]; rfl, fun i b k e1 e2 => by
    by_cases e : i < as.length
    · rw [List.getElem?_append_left e] at e1
      rw [List.getElem?_append_left (by rw [← h.len]; exact e)] at e2
      exact h.at_ _ _ _ e1 e2
    · rw [List.getElem?_append_right (by omega)] at e1
      rw [List.getElem?_append_right (by rw [← h.len]; omega), ← h.len] at e2
      generalize i - as.length = j at e1 e2
      cases j with
      | zero =>
        obtain rfl : a = b := Option.some.inj e1
        obtain rfl : l = k := Option.some.inj e2
        exact ⟨h1, h0⟩
      | succ j => cases e1⟩
theorem HeldAt.pd : ∀ {H0 H1 : Hp} {as : List Addr} {held : List (List Int)}, HeldAt H0 H1 as held → Paired (LL H0 H1) (as.map V.ref) held
  | _, _, [], [], _ => .nil
  | _, _, [], _ :: _, h => by cases h.len
  | _, _, _ :: _, [], h => by cases h.len
  | _, _, a :: as, l :: held, h => .cons (let ⟨p, q⟩ := h.at_ 0 a l rfl rfl; ⟨a, rfl, p, q⟩) (HeldAt.pd ⟨Nat.succ.inj h.len, fun i b k e1 e2 => h.at_ (i + 1) b k e1 e2⟩)
/-- what stays through the walk -/
structure WC (M : Mm) (H0 : Hp) (b0 : Nat) (r L d : Addr) (as : List Addr) : Prop where
  m0 : MAt H0 M b0
  zr : H0 r = none
  zL : H0 L = none
  zd : H0 d = none
  nd : (r :: L :: as).Nodup
/-- the walk's state -/
structure WS (M : Mm) (H0 H : Hp) (bd : Nat) (r L d : Addr) (as : List Addr) (row : List Int) (kvs : List (Key × V)) (held : List (List Int)) : Prop where
  f : Frm M.fs H0 H
  m : MAt H M bd
  gr : H r = some (.lst (row.map V.int))
  gL : H L = some (.lst (as.map V.ref))
  gd : H d = some (.dK kvs)
  hA : HeldAt H0 H as held
section
variable {M : Mm} {H0 H : Hp} {b0 bd : Nat} {r L d t a : Addr} {as : List Addr} {row row' l : List Int} {kvs kvs' : List (Key × V)} {held : List (List Int)} {xs : List V} {p : Nat}
theorem WC.rL (c : WC M H0 b0 r L d as) : r ≠ L := fun z => (List.nodup_cons.mp c.nd).1 (z ▸ List.mem_cons_self)
theorem WC.ra (c : WC M H0 b0 r L d as) : r ∉ as := fun z => (List.nodup_cons.mp c.nd).1 (List.mem_cons_of_mem _ z)
theorem WC.La (c : WC M H0 b0 r L d as) : L ∉ as := (List.nodup_cons.mp (List.nodup_cons.mp c.nd).2).1
theorem WC.asn (c : WC M H0 b0 r L d as) : as.Nodup := (List.nodup_cons.mp (List.nodup_cons.mp c.nd).2).2
theorem HeldAt.lst {H1 : Hp} (h : HeldAt H0 H1 as held) (ha : a ∈ as) : ∃ l : List Int, H1 a = some (.lst (l.map V.int)) ∧ H0 a = none := by
  obtain ⟨k, hk⟩ := List.getElem?_of_mem ha
  obtain ⟨b, l, e1, e2, e3, e4⟩ := h.ex (i := k) (by rw [← h.len]; exact (List.getElem?_eq_some_iff.mp hk).1)
  rw [hk] at e1
  obtain rfl := Option.some.inj e1
  exact ⟨l, e3, e4⟩
theorem HeldAt.other {H1 : Hp} {o : HO} (h : HeldAt H0 H1 as held) (ha : a ∉ as) : HeldAt H0 (upd H1 a o) as held := h.frm fun b hb u e => by
  have n1 : b ≠ a := fun z => ha (z ▸ hb)
  rw [upd_ne n1]; exact e
theorem WS.tup (s : WS M H0 H bd r L d as row kvs held) (c : WC M H0 b0 r L d as) (ht : H t = none) : WS M H0 (upd H t (.tup xs)) bd r L d as row kvs held :=
  ⟨s.f.new ht, s.m.puts c.m0 (s.f.tk _ ht), by rw [upd_ne (ne_of_none s.gr ht)]; exact s.gr, by rw [upd_ne (ne_of_none s.gL ht)]; exact s.gL, by rw [upd_ne (ne_of_none s.gd ht)]; exact s.gd,
    s.hA.other fun z => by obtain ⟨l, e, _⟩ := s.hA.lst z; rw [ht] at e; cases e⟩
theorem WS.dict (s : WS M H0 H bd r L d as row kvs held) (c : WC M H0 b0 r L d as) : WS M H0 (upd H d (.dK kvs')) bd r L d as row kvs' held :=
  ⟨s.f.put (.inl c.zd) (pl_dk s.gd), s.m.puts c.m0 c.zd, by rw [upd_ne (ne_of s.gr s.gd fun z => nomatch z)]; exact s.gr, by rw [upd_ne (ne_of s.gL s.gd fun z => nomatch z)]; exact s.gL, upd_same,
    s.hA.other fun z => by obtain ⟨l, e, _⟩ := s.hA.lst z; rw [s.gd] at e; cases e⟩
theorem WS.rowp (s : WS M H0 H bd r L d as row kvs held) (c : WC M H0 b0 r L d as) : WS M H0 (upd H r (.lst (row'.map V.int))) bd r L d as row' kvs held :=
  ⟨s.f.put (.inl c.zr) (pl_lst s.gr), s.m.puts c.m0 c.zr, upd_same, by rw [upd_ne (Ne.symm c.rL)]; exact s.gL, by rw [upd_ne (ne_of s.gd s.gr fun z => nomatch z)]; exact s.gd, s.hA.other c.ra⟩
theorem WS.hput (s : WS M H0 H bd r L d as row kvs held) (c : WC M H0 b0 r L d as) (hp : as[p]? = some a) : WS M H0 (upd H a (.lst (l.map V.int))) bd r L d as row kvs (held.set p l) := by
  have hm := List.mem_of_getElem? hp
  obtain ⟨l0, e, z⟩ := s.hA.lst hm
  have n1 : r ≠ a := fun q => c.ra (q ▸ hm)
  have n2 : L ≠ a := fun q => c.La (q ▸ hm)
  exact ⟨s.f.put (.inl z) (pl_lst e), s.m.puts c.m0 z, by rw [upd_ne n1]; exact s.gr, by rw [upd_ne n2]; exact s.gL, by rw [upd_ne (ne_of s.gd e fun z => nomatch z)]; exact s.gd, s.hA.put c.asn hp⟩
theorem WS.drawn {H1 : Hp} {bd1 : Nat} (s : WS M H0 H bd r L d as row kvs held) (c : WC M H0 b0 r L d as) (f : Frm M.fs H H1) (m : MAt H1 M bd1) : WS M H0 H1 bd1 r L d as row kvs held :=
  ⟨s.f.tr f, m, f.lst s.gr (c.m0.nofs c.zr), f.lst s.gL (c.m0.nofs c.zL), f.dk s.gd (c.m0.nofs c.zd), ⟨s.hA.len, fun i b k e1 e2 => let ⟨p, q⟩ := s.hA.at_ i b k e1 e2; ⟨f.lst p (c.m0.nofs q), q⟩⟩⟩
end
theorem dgI {H : Hp} {d : Addr} {kvs : List (Key × V)} {z : Int} {o : Option V} (hd : H d = some (.dK kvs)) (h : valV kvs (Sum.inl z : Key) = o) : DGet H d (.int z) o := h ▸ DGet.k (k := Sum.inl z) hd
theorem putK_len (c : List (Key × V)) (k : Key) (x : V) : (putK c k x).length ≤ c.length + 1 := by
  unfold putK
  by_cases e : (c.any fun kv => decide (kv.1 = k)) = true
  · rw [if_pos e, List.length_map]; omega
  · rw [if_neg e, List.length_append]; simp
theorem atA {as : List Addr} {p : Nat} {a : Addr} (h : as[p]? = some a) : (as.map V.ref)[p]? = some (V.ref a) := by rw [List.getElem?_map, h]; rfl
theorem optI (m : Option Int) (z : Int) : (m.map V.int).getD (V.int z) = V.int (m.getD z) := by cases m <;> rfl
theorem kI {a b : Int} : ((Sum.inl a : Key) = Sum.inl b) ↔ a = b := ⟨fun e => Sum.inl.inj e, fun e => congrArg Sum.inl e⟩
theorem mv_put {kvs : List (Key × V)} {mv : Int → Option Int} {thing far : Int} (h : ∀ z, valV kvs (Sum.inl z : Key) = (mv z).map V.int) :
    ∀ z, valV (putK (putK kvs (Sum.inl thing : Key) (.int 1)) (Sum.inl far : Key) (.int (-1))) (Sum.inl z : Key) = (mvTo mv thing far z).map V.int := fun z => by
  rw [valV_put, valV_put, h]
  unfold mvTo
  by_cases e1 : z = far
  · rw [if_pos (kI.mpr e1), if_pos e1]; rfl
  · rw [if_neg (fun q => e1 (kI.mp q)), if_neg e1]
    by_cases e2 : z = thing
    · rw [if_pos (kI.mpr e2), if_pos e2]; rfl
    · rw [if_neg (fun q => e2 (kI.mp q)), if_neg e2]
theorem vset2 {cs : List Int} {j : Nat} {a b : Int} : ((cs.map V.int).set j (.int a)).set (j + 1) (.int b) = (set2 cs j a b).map V.int := by
  unfold set2
  rw [List.map_set, List.map_set]
section
variable {P : Program} {w : World} {K : PySem.W.Frag} {mg : Str → Option Value} {base : Heap} {A : Ad}
theorem sc_walked : FnScope ["_law_m", "_law_many", "_law_row", "_law_held", "_law_moved", "_law_n", "_law_at", "_law_thing", "_law_far", "_law_who"] ["_law_m", "_law_many"] (defScope s_L_walked) := ⟨rfl, rfl, rfl, by decide +kernel, rfl, by decide +kernel, by decide +kernel⟩
theorem ok_walked (T : Tx K mg A) (D : DefAt K mg "_law_walked" s_L_walked) (D1 : Df P w K mg base CX0 2 "_law_draw" ["_law_m", "_law_top"] spDraw) : Df P w K mg base CX0 3 "_law_walked" ["_law_m", "_law_many"] spWalked := by
  refine Df.of0 D (fun _ _ _ _ _ _ us hl => match us, hl with | [_, _], _ => rfl) sc_walked (fun vs H Q E h => ?_) (fun f cdv A' outer s H vs Q E hr h => ?_)
  · obtain ⟨M, bd, n, rfl, _⟩ := h
    rfl
  · obtain ⟨M, bd, n, rfl, m, hbd, n1, n40, q⟩ := h
    have nd := sc_walked.nd
    have hu := hu_of hr
    refine ⟨_, pss_cons (ps_par3 (i := 2) (j := 3) (l := 4) (by rfl) nd rfl rfl rfl (by decide) (by decide) (by decide) rfl rfl rfl (pa_cons (pe_listRg rfl (by rfl) T.list (prg_1 (by rfl) T.range (pv 1)))
          (pa_cons (pe_lc (own := [("_law_who", 9)]) (g := gName 9) (tt := tYes) rfl nd (pi_range1 rfl T.range (pa_cons (pv 1) pa_nil)) (blkOk_by (own := [("_law_who", 9)]) (N := ["_law_m", "_law_many", "_law_row", "_law_held", "_law_moved", "_law_n", "_law_at", "_law_thing", "_law_far", "_law_who"]) (sc := defScope s_L_walked) (by decide +kernel))
            (fun _ _ _ _ _ => pg_name (i := 9) nd rfl (Or.inl rfl)) (fun _ _ _ _ _ => pts_nil) (fun _ _ _ _ _ => pe_lst (pa_cons (pv 9) pa_nil)))
          (pa_cons pe_dnewK pa_nil))) (by rfl))
      (pss_cons (ps_for PassesOwn.never rfl (pi_range1 rfl T.range (pa_cons (pe_ifExp (pt_cmpR op_gt (pv 1) pe_int (nomark _)) (pe_df D1 hr pass0 (pa_cons (pv 0) (pa_cons (pe_op op_mul pe_int (pv 1)) pa_nil))) pe_int) pa_nil)) (pg_name (i := 5) nd rfl (.inl rfl))
        (pss_cons (ps_set (i := 6) nd rfl (.inl rfl) (pe_df D1 hr pass0 (pa_cons (pv 0) (pa_cons (pe_op op_sub (pv 1) pe_int) pa_nil))))
        (pss_cons (ps_par (i := 7) (j := 8) (by rfl) nd rfl rfl (by decide) rfl rfl (pa_cons (pe_ix ix_list (pv 2) (pv 6) (fun _ _ => rfl)) (pa_cons (pe_ix ix_list (pv 2) (pe_op op_add (pv 6) pe_int) (fun _ _ => rfl)) pa_nil)) (by rfl))
        (pss_one (ps_if (PW.pt (pw_and (pt_cmpR op_eq (pe_dget2 hu (pv 4) (pv 7) pe_int ⟨rfl, rfl, rfl, rfl⟩) pe_int (nomark _)) (pw_and1 (pt_cmpR op_eq (pe_dget2 hu (pv 4) (pv 8) (pe_op op_sub pe_int pe_int) ⟨rfl, rfl, rfl, rfl⟩) (pe_op op_sub pe_int pe_int) (nomark _)))))
          (pss_cons (ps_asg (pe_tup (pa_cons pe_int (pa_cons (pe_op op_sub pe_int pe_int) pa_nil))) (pg_tup rfl (pgs_cons (pg_sub (pv 4) (pv 7) (set_dict hu)) (pgs_cons (pg_sub (pv 4) (pv 8) (set_dict hu)) pgs_nil))))
          (pss_cons (ps_asg (pe_tup (pa_cons (pv 8) (pa_cons (pv 7) pa_nil))) (pg_tup rfl (pgs_cons (pg_sub (pv 2) (pv 6) set_list) (pgs_cons (pg_sub (pv 2) (pe_op op_add (pv 6) pe_int) set_list) pgs_nil))))
          (pss_cons (ps_expr (pe_bm PySem.F.plainAttrs_list PySem.F.slot_list_append PySem.F.type_list_append mt_append (pe_ix ix_list (pv 3) (pv 6) (fun _ _ => rfl)) (pa_cons (pv 8) pa_nil)))
          (pss_one (ps_expr (pe_bm PySem.F.plainAttrs_list PySem.F.slot_list_append PySem.F.type_list_append mt_append (pe_ix ix_list (pv 3) (pe_op op_add (pv 6) pe_int) (fun _ _ => rfl)) (pa_cons (pv 7) pa_nil))))))) pss_nil)))))
      (pss_one (ps_ret (pv 3)))), ?_⟩
    refine ⟨_, rfl, _, rfl, .of_le (by decide) (by omega) (by decide) (by omega), fun r hr0 => ?_⟩
    rw [rgV_rng]
    have f1 : Frm M.fs H (upd H r (.lst ((rng n).map V.int))) := frm_new hr0
    refine ⟨_, rfl, n, rfl, by omega, by omega, fun L hL => lc_range (lo := 0) (fun i H' => Frm M.fs H H' ∧ MAt H' M bd ∧ H' r = some (.lst ((rng n).map V.int)) ∧ ∃ as : List Addr, H' L = some (.lst (as.map V.ref)) ∧ (r :: L :: as).Nodup ∧ HeldAt H H' as ((List.range i).map fun j : Nat => [(j : Int)]))
      ?_ (fun i H1 hi z => ?_) (fun H1 z => ?_)⟩
    · have h0 : (upd (upd H r (.lst ((rng n).map V.int))) L (.lst [])) r = some (.lst ((rng n).map V.int)) := by rw [upd_ne (ne_of_none upd_same hL), upd_same]
      exact ⟨f1.new hL, (m.puts m hr0).puts m (f1.tk _ hL), h0, [], upd_same, by simpa using ne_of_none upd_same hL, rfl, fun i a l e _ => by cases i <;> cases e⟩
    · obtain ⟨f2, m2, g2, as, gL, hnd, hA⟩ := z
      refine ⟨rfl, _, rfl, by show 1 ≤ sizeLine; decide, fun a ha => ?_⟩
      have ha0 := f2.tk _ ha
      have nL : L ≠ a := ne_of_none gL ha
      have nr : r ≠ a := ne_of_none g2 ha
      have hLs : H L = none := f1.tk _ hL
      have nas : a ∉ as := fun z => by
        obtain ⟨k, hk⟩ := List.getElem?_of_mem z
        obtain ⟨b, l, e1, e2, e3, _⟩ := hA.ex (i := k) (by rw [← hA.len]; exact (List.getElem?_eq_some_iff.mp hk).1)
        rw [hk] at e1
        obtain rfl := Option.some.inj e1
        rw [e3] at ha; cases ha
      have e0 : (List.range (i + 1)).map (fun j : Nat => [(j : Int)]) = (List.range i).map (fun j : Nat => [(j : Int)]) ++ [[(i : Int)]] := by rw [List.range_succ, List.map_append]; rfl
      have gL2 : (upd H1 a (.lst [.int (0 + (i : Nat))])) L = some (.lst (as.map V.ref)) := by rw [upd_ne nL]; exact gL
      have hcnt : as.length = i := by rw [hA.len, List.length_map, List.length_range]
      have hin : i < n := by omega
      refine ⟨_, gL2, by rw [List.length_map]; exact small1000 (by omega), (f2.new ha).put (.inl hLs) (pl_lst gL2), (m2.puts m ha0).puts m hLs, ?_, as ++ [a], ?_, ?_, ?_⟩
      · rw [upd_ne (ne_of_none upd_same hL), upd_ne nr]; exact g2
      · rw [upd_same, List.map_append]; rfl
      · rw [List.nodup_cons, List.nodup_cons, List.nodup_append]
        rw [List.nodup_cons, List.nodup_cons] at hnd
        obtain ⟨h1, h2, h3⟩ := hnd
        refine ⟨?_, ?_, h3, by simp, fun x hx y hy e => nas (by rw [← List.mem_singleton.mp hy, ← e]; exact hx)⟩
        · intro z
          rcases List.mem_cons.mp z with z | z
          · exact h1 (z ▸ List.mem_cons_self)
          · rcases List.mem_append.mp z with z | z
            · exact h1 (List.mem_cons_of_mem _ z)
            · exact nr (List.mem_singleton.mp z)
        · intro z
          rcases List.mem_append.mp z with z | z
          · exact h2 z
          · exact nL (List.mem_singleton.mp z)
      · rw [e0]
        have nLas : L ∉ as := (List.nodup_cons.mp (List.nodup_cons.mp hnd).2).1
        refine HeldAt.snoc (HeldAt.frm hA fun b hb o e => ?_) ?_ ha0
        · have n1 : b ≠ L := fun z => nLas (z ▸ hb)
          have n2 : b ≠ a := fun z => nas (z ▸ hb)
          rw [upd_ne n1, upd_ne n2]; exact e
        · rw [upd_ne (Ne.symm nL), upd_same]
          show some (HO.lst [V.int (0 + (i : Int))]) = some (HO.lst [V.int (i : Int)])
          rw [Int.zero_add]
    · obtain ⟨f2, m2, g2, as, gL, hnd, hA⟩ := z
      have hLs : H L = none := f1.tk _ hL
      have en : ((n : Int)).toNat = n := Int.toNat_natCast n
      rw [en] at hA
      intro d hd
      have hds : H d = none := f2.tk _ hd
      refine ⟨_, _, _, rfl, ?_⟩
      have c : WC M H bd r L d as := ⟨m, hr0, hLs, hds, hnd⟩
      have s0 : WS M H (upd H1 d (.dK [])) bd r L d as (rng n) [] ((List.range n).map fun j : Nat => [(j : Int)]) :=
        ⟨f2.new hd, m2.puts m hds, by rw [upd_ne (ne_of_none g2 hd)]; exact g2, by rw [upd_ne (ne_of_none gL hd)]; exact gL, upd_same, hA.other fun z => by obtain ⟨l, e, _⟩ := hA.lst z; rw [hd] at e; cases e⟩
      generalize upd H1 d (.dK []) = H2 at s0
      have fin : ∀ (H' : Hp) (row : List Int) (kvs : List (Key × V)) (held : List (List Int)) (mv : Int → Option Int) (b : Nat), WS M H H' b r L d as row kvs held → b ≤ bd + 300 → WInv n row held mv → Q (.ref L) H' := fun H' row kvs held mv b s hb W =>
        q L H' _ row held mv W hLs s.gL s.hA.pd (fun l hl => by
          obtain ⟨k, hk⟩ := List.getElem?_of_mem hl
          have := len_le n l (W.hd _ _ hk) (W.hr _ _ hk)
          omega) s.f (s.m.mono hb)
      by_cases hn : 1 < n
      · refine ⟨_, rfl, _, _, rfl, rfl, _, rfl, iteP (by simp; omega) ?_⟩
        refine ⟨_, rfl, _, rfl, _, _, rfl, rfl, .inl ⟨by decide, by decide⟩, M, bd, 3 * n, rfl, s0.m, by omega, by omega, by omega, fun k H3 hk f4 m4 => ?_⟩
        refine ⟨_, rfl, by omega, by omega, for_range (lo := 0) (fun i σ H' => ∃ (u5 u6 u7 u8 : Option V) (row : List Int) (kvs : List (Key × V)) (held : List (List Int)) (mv : Int → Option Int),
            σ = [some (.ref M.dm), some (.int n), some (.ref r), some (.ref L), some (.ref d), u5, u6, u7, u8, none] ∧ WS M H H' (bd + 1 + i) r L d as row kvs held ∧ WInv n row held mv ∧ kvs.length ≤ 2 * i ∧ ∀ z, valV kvs (Sum.inl z : Key) = (mv z).map V.int)
          ⟨none, none, none, none, _, _, _, _, rfl, s0.drawn c f4 m4, winv0 n, Nat.le_refl _, fun z => rfl⟩ (fun i σ H5 hi z => ?_) (fun σ H5 z => ?_)⟩
        · obtain ⟨u5, u6, u7, u8, row, kvs, held, mv, rfl, s1, W, hkl, hval⟩ := z
          refine ⟨_, rfl, _, rfl, _, _, rfl, rfl, M, _, n - 1, by rw [show ((n - 1 : Nat) : Int) = (n : Int) - 1 by omega]; rfl, s1.m, by omega, by omega, by omega, fun p H6 hp f5 m5 => ?_⟩
          have s2 := s1.drawn c f5 m5
          have lr : row.length = n := W.perm.1
          have e1 : ((p : Nat) : Int) + 1 = ((p + 1 : Nat) : Int) := by omega
          have p0 : p < row.length := by omega
          have p1 : p + 1 < row.length := by omega
          refine ⟨_, rfl, _, rfl, r, _, _, _, rfl, rfl, SqL.of s2.gr, atI_nat (vgt p0), _, rfl, _, rfl, _, _, rfl, rfl, r, _, _, _, rfl, rfl, SqL.of s2.gr, at_of e1 (vgt p1), _, _, rfl, ?_⟩
          have t1 : row[p]? = some row[p] := List.getElem?_eq_getElem p0
          have t2 : row[p + 1]? = some row[p + 1] := List.getElem?_eq_getElem p1
          generalize row[p] = thing at t1
          generalize row[p + 1] = far at t2
          have skip : ∀ u5 u6 u7 u8 : Option V, ∃ (u5' u6' u7' u8' : Option V) (row : List Int) (kvs : List (Key × V)) (held : List (List Int)) (mv : Int → Option Int),
            [some (.ref M.dm), some (.int n), some (.ref r), some (.ref L), some (.ref d), u5, u6, u7, u8, none] = [some (V.ref M.dm), some (.int n), some (.ref r), some (.ref L), some (.ref d), u5', u6', u7', u8', none] ∧ WS M H H6 (bd + 1 + (i + 1)) r L d as row kvs held ∧ WInv n row held mv ∧ kvs.length ≤ 2 * (i + 1) ∧ ∀ z, valV kvs (Sum.inl z : Key) = (mv z).map V.int :=
            fun u5 u6 u7 u8 => ⟨u5, u6, u7, u8, row, kvs, held, mv, rfl, s2, W, by omega, hval⟩
          refine ⟨_, rfl, d, rfl, .inl ⟨_, .inl s2.gd⟩, _, rfl, (mv thing).map V.int, dgI s2.gd (hval thing), ?_⟩
          rw [optI]
          refine ⟨rfl, _, rfl, ?_⟩
          by_cases c1 : (mv thing).getD 1 = 1
          · refine iteP (by simp [c1]) ?_
            refine ⟨_, rfl, d, rfl, .inl ⟨_, .inl s2.gd⟩, _, rfl, _, _, rfl, rfl, (mv far).map V.int, dgI s2.gd (hval far), ?_⟩
            rw [optI]
            refine ⟨_, _, rfl, rfl, rfl, _, rfl, ?_⟩
            by_cases c2 : (mv far).getD (-1) = -1
            · refine iteP (decide_eq_true (congrArg V.int c2)) ?_
              have hpn : p + 1 < n := by omega
              obtain ⟨a1, l1, ea1, el1, ga1, za1⟩ := s2.hA.ex (i := p) (by rw [W.hl]; omega)
              obtain ⟨a2, l2, ea2, el2, ga2, za2⟩ := s2.hA.ex (i := p + 1) (by rw [W.hl]; omega)
              have W2 := W.step hpn t1 t2 c1 c2 el1 el2
              refine ⟨_, _, rfl, rfl, by show 2 ≤ sizeLine; decide, fun t ht => ?_⟩
              have s3 := s2.tup (xs := [.int 1, .int (0 - 1)]) c ht
              refine ⟨t, _, rfl, SqT.of upd_same, rfl, _, _, rfl, _, rfl, _, rfl, d, _, rfl, DPut.k (k := Sum.inl thing) s3.gd (small1000 (by omega)), ?_⟩
              have s4 := s3.dict (kvs' := putK kvs (Sum.inl thing) (.int 1)) c
              have hk4 := putK_len kvs (Sum.inl thing) (.int 1)
              refine ⟨_, _, rfl, _, rfl, _, rfl, d, _, rfl, DPut.k (k := Sum.inl far) s4.gd (small1000 (by omega)), rfl, ?_⟩
              have s5 := s4.dict (kvs' := putK (putK kvs (Sum.inl thing) (.int 1)) (Sum.inl far) (.int (0 - 1))) c
              have hk5 := putK_len (putK kvs (Sum.inl thing) (.int 1)) (Sum.inl far) (.int (0 - 1))
              have hval5 := mv_put (thing := thing) (far := far) hval
              refine ⟨_, rfl, _, rfl, by show 2 ≤ sizeLine; decide, fun t' ht' => ?_⟩
              have s6 := s5.tup (xs := [.int far, .int thing]) c ht'
              refine ⟨t', _, rfl, SqT.of upd_same, rfl, _, _, rfl, _, rfl, _, rfl, r, _, _, _, rfl, rfl, s6.gr, ixN_nat (by rw [List.length_map]; exact p0), ?_⟩
              rw [vset]
              have s7 := s6.rowp (row' := row.set p far) c
              refine ⟨_, _, rfl, _, rfl, _, rfl, _, _, rfl, rfl, r, _, _, _, rfl, rfl, s7.gr, ixN_of e1 (by rw [List.length_map, List.length_set]; exact p1), rfl, ?_⟩
              rw [vset]
              have s8 := s7.rowp (row' := set2 row p far thing) c
              have ga8 : _ = _ := (s8.hA.at_ p a1 l1 ea1 el1).1
              refine ⟨_, rfl, _, rfl, L, _, _, _, rfl, rfl, SqL.of s8.gL, atI_nat (atA ea1), .inl ⟨rfl, _, SqL.of ga8⟩, _, rfl, a1, _, _, rfl, rfl, ga8, ?_, ?_⟩
              · have := len_le n l1 (W.hd _ _ el1) (W.hr _ _ el1)
                rw [List.length_map]; exact small1000 (by omega)
              have s9 := s8.hput (l := l1 ++ [far]) c ea1
              rw [List.map_append] at s9
              have el9 : (held.set p (l1 ++ [far]))[p + 1]? = some l2 := by rw [List.getElem?_set, if_neg (by omega)]; exact el2
              have ga9 : _ = _ := (s9.hA.at_ (p + 1) a2 l2 ea2 el9).1
              refine ⟨_, rfl, _, rfl, _, _, rfl, rfl, L, _, _, _, rfl, rfl, SqL.of s9.gL, at_of e1 (atA ea2), .inl ⟨rfl, _, SqL.of ga9⟩, _, rfl, a2, _, _, rfl, rfl, ga9, ?_, ?_⟩
              · have := len_le n l2 (W.hd _ _ el2) (W.hr _ _ el2)
                rw [List.length_map]; exact small1000 (by omega)
              have s10 := s9.hput (l := l2 ++ [thing]) c ea2
              rw [List.map_append] at s10
              exact ⟨_, _, _, _, _, _, _, _, rfl, s10, W2, by omega, hval5⟩
            · exact iteN (fun z => c2 (V.int.inj (of_decide_eq_true z))) (skip _ _ _ _)
          · exact iteN (by simp [c1]) (iteF (skip _ _ _ _))
        · obtain ⟨u5, u6, u7, u8, row, kvs, held, mv, rfl, s1, W, hkl, hval⟩ := z
          exact ⟨_, rfl, fin _ _ _ _ _ _ s1 (by omega) W⟩
      · refine ⟨_, rfl, _, _, rfl, rfl, _, rfl, iteN (by simp; omega) ?_⟩
        refine ⟨_, rfl, by omega, by omega, for_range (lo := 0) (fun i σ H' => H' = H2 ∧ ∃ u, σ = [some (.ref M.dm), some (.int n), some (.ref r), some (.ref L), some (.ref d), u, none, none, none, none]) ⟨rfl, none, rfl⟩ (fun i σ H5 hi z => absurd hi (by simp)) (fun σ H5 z => ?_)⟩
        obtain ⟨rfl, u, rfl⟩ := z
        exact ⟨_, rfl, fin _ _ _ _ _ _ s0 (by omega) (winv0 n)⟩
end
end Sw
set_option maxHeartbeats 4000000
/-! Swaprow: the drawn rankings -/
namespace Sw
open PySem L2
theorem LL.frm {TP : List (Addr × Str) → Prop} {fs : List Addr} {H0 H H1 : Hp} {v : V} {l : List Int} (h : LL H0 H v l) (f : FrmT TP fs H H1) (hn : ∀ z, H0 z = none → H z ≠ none → z ∉ fs) : LL H0 H1 v l := by
  obtain ⟨a, e, g, z⟩ := h
  exact ⟨a, e, f.lst g (hn a z (by rw [g]; exact fun q => nomatch q)), z⟩
theorem ranked_perm {n c : Nat} {l ys lk : List Int} (hd : l.Nodup) (hr : ∀ z ∈ l, 0 ≤ z ∧ z < (n : Int)) (hy : ys.Perm ((rng n).filter fun z => !decide (z ∈ l))) (hk : lk.Perm l) : PermN (ys.drop c ++ lk ++ ys.take c) n := by
  have h1 : (ys.drop c ++ lk ++ ys.take c).Perm ((rng n).filter (fun z => !decide (z ∈ l)) ++ l) := by
    refine List.Perm.trans List.perm_append_comm ?_
    rw [← List.append_assoc, List.take_append_drop]
    exact hy.append hk
  have h2 : ((rng n).filter (fun z => !decide (z ∈ l)) ++ l).Nodup := by
    rw [List.nodup_append]
    refine ⟨(rng_nodup n).filter _, hd, fun a ha b hb e => ?_⟩
    have := (List.mem_filter.mp ha).2
    rw [e, decide_eq_true hb] at this
    cases this
  refine (permN_rng n).perm (h1.trans ((List.perm_ext_iff_of_nodup h2 (rng_nodup n)).mpr fun z => ?_))
  rw [List.mem_append, List.mem_filter]
  constructor
  · rintro (⟨h, _⟩ | h)
    · exact h
    · exact mem_rng.mpr (hr z h)
  · intro h
    by_cases hz : z ∈ l
    · exact .inr hz
    · exact .inl ⟨h, by rw [decide_eq_false hz]; rfl⟩
/-- the rankings under way -/
structure LSt (M : Mm) (H Ht H' : Hp) (b : Nat) (F : Addr) (ws : List V) (R : List (List Int)) : Prop where
  f : Frm (F :: M.fs) Ht H'
  m : MAt H' M b
  gF : H' F = some (.lst ws)
  pd : Paired (TIv H') ws R
structure LC (M : Mm) (H Ht : Hp) (b0 : Nat) (F : Addr) : Prop where
  f0 : Frm M.fs H Ht
  m0 : MAt H M b0
  zF : H F = none
section
variable {M : Mm} {H Ht H' H1 : Hp} {b b0 b1 : Nat} {F p : Addr} {ws xs : List V} {R : List (List Int)} {o : HO}
theorem LSt.old (s : LSt M H Ht H' b F ws R) (c : LC M H Ht b0 F) (h : H' p = none) : H p = none := c.f0.tk _ (s.f.tk _ h)
theorem LSt.no (s : LSt M H Ht H' b F ws R) (c : LC M H Ht b0 F) (h : H' p = none) : p ∉ M.fs := c.m0.nofs (s.old c h)
theorem LSt.drawn (s : LSt M H Ht H' b F ws R) (c : LC M H Ht b0 F) (f : Frm M.fs H' H1) (m : MAt H1 M b1) : LSt M H Ht H1 b1 F ws R :=
  ⟨s.f.trans f fun z h => .inl (List.mem_cons_of_mem _ h), m, f.lst s.gF (c.m0.nofs c.zF), Paired.mapP s.pd fun _ _ z => z.frm f⟩
theorem LSt.new (s : LSt M H Ht H' b F ws R) (c : LC M H Ht b0 F) (h : H' p = none) : LSt M H Ht (upd H' p o) b F ws R :=
  ⟨s.f.new h, s.m.puts c.m0 (s.old c h), by rw [upd_ne (ne_of_none s.gF h)]; exact s.gF, Paired.mapP s.pd fun _ _ z => z.frm (frm_new (TP := fun _ => True) (fs := []) h)⟩
theorem LSt.snoc (s : LSt M H Ht H' b F ws R) (c : LC M H Ht b0 F) {t : Addr} {ns : List Int} (ht : TF H' t ns) : LSt M H Ht (upd H' F (.lst (ws ++ [.ref t]))) b F (ws ++ [.ref t]) (R ++ [ns]) := by
  have g : Frm [F] H' (upd H' F (.lst (ws ++ [.ref t]))) := (FrmT.refl H').put (.inr (by simp)) (pl_lst s.gF)
  exact ⟨s.f.put (.inr (by simp)) (pl_lst s.gF), s.m.puts c.m0 c.zF, upd_same, pd_app (Paired.mapP s.pd fun _ _ z => z.frm g) (.cons ⟨t, rfl, ht.frm g⟩ .nil)⟩
end
section
variable {P : Program} {w : World} {K : PySem.W.Frag} {mg : Str → Option Value} {base : Heap} {A : Ad}
theorem sc_lists : FnScope ["_law_m", "_law_many", "_law_way", "_law_held", "_law_found", "_law_who", "_law_rest", "_law_liked", "_law_cut", "_law_ranked", "_law_thing"] ["_law_m", "_law_many"] (defScope s_L_lists) := ⟨rfl, rfl, rfl, by decide +kernel, rfl, by decide +kernel, by decide +kernel⟩
theorem ok_lists (T : Tx K mg A) (D : DefAt K mg "_law_lists" s_L_lists) (D1 : Df P w K mg base CX0 2 "_law_draw" ["_law_m", "_law_top"] spDraw) (D2 : Df P w K mg base CX0 3 "_law_mixed_up" ["_law_m", "_law_things"] spMixedUp)
    (D3 : Df P w K mg base CX0 3 "_law_walked" ["_law_m", "_law_many"] spWalked) : Df P w K mg base CX0 4 "_law_lists" ["_law_m", "_law_many"] spLists := by
  refine Df.of0 D (fun _ _ _ _ _ _ us hl => match us, hl with | [_, _], _ => rfl) sc_lists (fun vs H Q E h => ?_) (fun f cdv A' outer s H vs Q E hr h => ?_)
  · obtain ⟨M, bd, n, rfl, _⟩ := h
    rfl
  · obtain ⟨M, bd, n, rfl, m, hbd, n1, n40, q⟩ := h
    have nd := sc_lists.nd
    have hu := hu_of hr
    refine ⟨_, pss_cons (ps_asg (pe_tup (pa_cons (pe_df D1 (hr.mono (by decide)) pass0 (pa_cons (pv 0) (pa_cons pe_int pa_nil))) (pa_cons (pe_df D3 hr pass0 (pa_cons (pv 0) (pa_cons (pv 1) pa_nil))) (pa_cons (pe_lst pa_nil) pa_nil))))
        (pg_tup rfl (pgs_cons (pg_name (i := 2) nd rfl (.inl rfl)) (pgs_cons (pg_name (i := 3) nd rfl (.inr rfl)) (pgs_cons (pg_name (i := 4) nd rfl (.inl rfl)) pgs_nil)))))
      (pss_cons (ps_for PassesOwn.never rfl (pi_range1 (by rfl) T.range (pa_cons (pv 1) pa_nil)) (pg_name (i := 5) nd rfl (.inr rfl))
        (pss_cons (ps_set (i := 6) nd rfl (.inl rfl) (pe_df D2 hr pass0 (pa_cons (pv 0) (pa_cons
            (pe_lc (own := [("_law_thing", 10)]) (g := gName 10) (by rfl) nd (pi_range1 (by rfl) T.range (pa_cons (pv 1) pa_nil)) (blkOk_by (own := [("_law_thing", 10)]) (N := ["_law_m", "_law_many", "_law_way", "_law_held", "_law_found", "_law_who", "_law_rest", "_law_liked", "_law_cut", "_law_ranked", "_law_thing"]) (sc := defScope s_L_lists) (by decide +kernel))
              (fun _ _ _ _ _ => pg_name (i := 10) nd rfl (Or.inl rfl)) (fun _ _ _ _ _ => pts_one (pt_cmpR (show OpR _ (compareOp .NotIn) (rIn K true) from op_notIn_seq) (pv 10) (pe_ix (show IxR _ (rIxL K) from ix_list) (pv 3) (pv 5) (fun _ _ => rfl)) (by with_unfolding_all rfl))) (fun _ _ _ _ _ => pv 10)) pa_nil))))
        (pss_cons (ps_set (i := 7) nd rfl (.inl rfl) (pe_revL (pe_ix ix_list (pv 3) (pv 5) (fun _ _ => rfl))))
        (pss_cons (ps_cut (ps_if (pt_cut (PW.pt (pw_or (pt_cmpR op_eq (pv 2) pe_int (nomark _)) (pw_or1 (PW.pt (pw_and (pt_cmpR op_eq (pv 2) pe_int (nomark _)) (pw_and1 (pt_cmpR op_eq (pe_df D1 (hr.mono (by decide)) pass0 (pa_cons (pv 0) (pa_cons pe_int pa_nil))) pe_int (nomark _)))))))))
          (pss_one (ps_set (i := 7) nd rfl (.inl rfl) (pe_df D2 hr pass0 (pa_cons (pv 0) (pa_cons (pv 7) pa_nil))))) pss_nil))
        (pss_cons (ps_set (i := 8) nd rfl (.inl rfl) (pe_cut (pe_ifExp (pt_cmpR op_eq (pv 2) pe_int (nomark _)) (pe_df D1 (hr.mono (by decide)) pass0 (pa_cons (pv 0) (pa_cons (pe_op op_add (pe_len T.len (pv 6)) pe_int) pa_nil))) (pe_len T.len (pv 6)))))
        (pss_cons (ps_set (i := 9) nd rfl (.inl rfl) (pe_op op_cat (pe_op op_cat (pe_slice sl_list (pv 6) (po_some (pv 8)) po_none) (pv 7)) (pe_slice sl_list (pv 6) po_none (po_some (pv 8)))))
        (pss_one (ps_expr (pe_bm PySem.F.plainAttrs_list PySem.F.slot_list_append PySem.F.type_list_append mt_append (pv 4) (pa_cons (pe_callTy call_tupleF (by rfl) T.tuple (by decide +kernel) (pa_cons (pv 9) pa_nil)) pa_nil))))))))))
      (pss_one (ps_ret (pe_callTy call_tuple_of (by rfl) T.tuple (by decide +kernel) (pa_cons (pv 4) pa_nil))))), ?_⟩
    refine ⟨_, rfl, M, bd, 4, rfl, m, by omega, by omega, by omega, fun way H1 hway f1 m1 => ?_⟩
    refine ⟨_, rfl, _, rfl, M, bd + 1, n, rfl, m1, by omega, n1, n40, fun L H2 hs row held mv W hL gL pd hlen f2 m2 => ?_⟩
    refine ⟨by show 0 ≤ sizeLine; decide, fun F hF => ?_⟩
    refine ⟨by show 3 ≤ sizeLine; decide, fun t ht => ?_⟩
    refine ⟨t, _, rfl, SqT.of upd_same, rfl, _, _, rfl, _, _, rfl, _, _, rfl, rfl, ?_⟩
    have f02 : Frm M.fs H H2 := f1.tr f2
    have f03 := f02.new (o := .lst []) hF
    have f04 := f03.new (o := .tup [.int way, .ref L, .ref F]) ht
    have zF : H F = none := f02.tk _ hF
    have ztH : H t = none := f03.tk _ ht
    have nFt : F ≠ t := ne_of_none upd_same ht
    have g24 : Frm [] H2 (upd (upd H2 F (.lst [])) t (.tup [.int way, .ref L, .ref F])) := (frm_new hF).new ht
    have gL4 := g24.lst gL (fun z => nomatch z)
    have pd4 := Paired.mapP pd fun _ _ z => z.frm g24 fun _ _ _ z => nomatch z
    have m4 := m2.frm0 g24
    have gF4 : (upd (upd H2 F (.lst [])) t (.tup [.int way, .ref L, .ref F])) F = some (.lst []) := by rw [upd_ne nFt, upd_same]
    have old2 : ∀ z, H1 z = none → H2 z ≠ none → z ∉ F :: M.fs := fun z h1 h2 h => by
      rcases List.mem_cons.mp h with h | h
      · exact h2 (h ▸ hF)
      · exact m.nofs (f1.tk _ h1) h
    have noL : L ∉ F :: M.fs := old2 L hL (by rw [gL]; exact fun z => nomatch z)
    have old4 : ∀ z, H1 z = none → H2 z ≠ none → (upd (upd H2 F (.lst [])) t (.tup [.int way, .ref L, .ref F])) z ≠ none → z ∉ F :: M.fs := fun z h1 h2 _ => old2 z h1 h2
    have pd5 : Paired (fun v l => ∃ a, v = V.ref a ∧ (upd (upd H2 F (.lst [])) t (.tup [.int way, .ref L, .ref F])) a = some (.lst (l.map V.int)) ∧ a ∉ F :: M.fs) hs held := Paired.mapP pd fun v l z => by
      obtain ⟨a, e, g, z⟩ := z
      exact ⟨a, e, g24.lst g (fun z => nomatch z), old2 a z (by rw [g]; exact fun q => nomatch q)⟩
    generalize upd (upd H2 F (.lst [])) t (.tup [.int way, .ref L, .ref F]) = Ht at f04 gL4 m4 gF4 pd5
    have c : LC M H Ht bd F := ⟨f04, m, zF⟩
    refine ⟨_, rfl, n, rfl, by omega, by omega, ?_⟩
    rw [Int.toNat_natCast]
    refine for_range (lo := 0) (fun i σ H' => ∃ (w5 w6 w7 w8 w9 : Option V) (ws : List V) (R : List (List Int)), σ = [some (.ref M.dm), some (.int n), some (.int way), some (.ref L), some (.ref F), w5, w6, w7, w8, w9, none] ∧ LSt M H Ht H' (bd + 301 + 400 * i) F ws R ∧ R.length = i ∧ ∀ ns ∈ R, PermN ns n)
      ⟨none, none, none, none, none, [], [], rfl, ⟨FrmT.refl _, m4, gF4, .nil⟩, rfl, fun _ z => nomatch z⟩ (fun i σ H5 hi z => ?_) (fun σ H5 z => ?_)
    · obtain ⟨w5, w6, w7, w8, w9, ws, R, rfl, s1, hRl, hRp⟩ := z
      have hih : i < held.length := by rw [W.hl]; exact hi
      obtain ⟨v, hv, a, rfl, ga, na⟩ := pd_get pd5 (List.getElem?_eq_getElem hih)
      have hel : held[i]? = some held[i] := List.getElem?_eq_getElem hih
      generalize held[i] = l at ga hel
      have lnd := W.hd _ _ hel
      have lrg := W.hr _ _ hel
      have e0 : (0 : Int) + ((i : Nat) : Int) = ((i : Nat) : Int) := Int.zero_add _
      refine ⟨_, rfl, _, rfl, n, rfl, by omega, by omega, fun C hC => ?_⟩
      rw [Int.toNat_natCast]
      refine lc_range (lo := 0) (n := n) (fun j H' => Frm [] H5 H' ∧ H' C = some (.lst ((((List.range j).map fun k : Nat => (k : Int)).filter fun z => !decide (z ∈ l)).map V.int))) ⟨frm_new hC, upd_same⟩ (fun j H6 hj z => ?_) (fun H6 z => ?_)
      · obtain ⟨f6, g6⟩ := z
        have gL6 := f6.lst (s1.f.lst gL4 noL) (fun z => nomatch z)
        have ga6 := f6.lst (s1.f.lst ga na) (fun z => nomatch z)
        refine ⟨rfl, _, rfl, _, rfl, _, rfl, L, _, _, _, rfl, rfl, SqL.of gL6, at_of e0 hv, a, _, rfl, .inl (SqL.of ga6), rfl, flat_ints l, _, rfl, ?_⟩
        have eb : (if true = true then !inV (.int (0 + (j : Int))) (l.map V.int) else inV (.int (0 + (j : Int))) (l.map V.int)) = !decide ((j : Int) ∈ l) := by
          rw [if_pos rfl, inV_ints, Int.zero_add]
        have es : ((List.range (j + 1)).map fun k : Nat => (k : Int)).filter (fun z => !decide (z ∈ l)) = ((List.range j).map fun k : Nat => (k : Int)).filter (fun z => !decide (z ∈ l)) ++ (if (!decide ((j : Int) ∈ l)) = true then [(j : Int)] else []) := by
          rw [List.range_succ, List.map_append, List.filter_append]
          congr 1
          show List.filter _ [(j : Int)] = _
          rw [List.filter_cons]
          rfl
        refine iteB (fun hb => ?_) (fun hb => ?_)
        · have hb' : (!decide ((j : Int) ∈ l)) = true := eb ▸ hb
          rw [if_pos hb'] at es
          refine ⟨_, rfl, _, g6, ?_, f6.put (.inl hC) (pl_lst g6), ?_⟩
          · rw [List.length_map]
            refine small1000 ?_
            have := List.length_filter_le (fun z => !decide (z ∈ l)) ((List.range j).map fun k : Nat => (k : Int))
            rw [List.length_map, List.length_range] at this
            omega
          · rw [upd_same, es, List.map_append, Int.zero_add]; rfl
        · have hb' : ¬ (!decide ((j : Int) ∈ l)) = true := by rw [← eb]; exact fun z => by rw [hb] at z; cases z
          rw [if_neg hb', List.append_nil] at es
          exact ⟨f6, by rw [g6, es]⟩
      · obtain ⟨f6, g6⟩ := z
        have s6 : LSt M H Ht H6 (bd + 301 + 400 * i) F ws R := ⟨s1.f.tr0 f6, s1.m.frm0 f6, f6.lst s1.gF (fun z => nomatch z), Paired.mapP s1.pd fun _ _ z => z.frm f6⟩
        refine ⟨M, _, C, _, rfl, s6.m, by omega, g6, ?_, fun ys p H7 hperm hp gp f7 m7 => ?_⟩
        · have := List.length_filter_le (fun z => !decide (z ∈ l)) ((List.range n).map fun k : Nat => (k : Int))
          rw [List.length_map, List.length_range] at this
          omega
        have hyl : ys.length ≤ 40 := by
          rw [hperm.length_eq]
          have := List.length_filter_le (fun z => !decide (z ∈ l)) ((List.range n).map fun k : Nat => (k : Int))
          rw [List.length_map, List.length_range] at this
          omega
        have hll : l.length ≤ 40 := by have := len_le n l lnd lrg; omega
        have s7 := s6.drawn c f7 m7
        have np : p ∉ M.fs := s6.no c hp
        have gL7 := s7.f.lst gL4 noL
        have ga7 := s7.f.lst ga na
        refine ⟨_, rfl, _, rfl, L, _, _, _, rfl, rfl, SqL.of gL7, at_of e0 hv, a, _, rfl, SqL.of ga7, fun k hk => ?_⟩
        have s8 := s7.new (o := .lst (l.map V.int).reverse) c hk
        have gp8 : (upd H7 k (.lst (l.map V.int).reverse)) p = some (.lst (ys.map V.int)) := by rw [upd_ne (ne_of_none gp hk)]; exact gp
        have gk8 : (upd H7 k (.lst (l.map V.int).reverse)) k = some (.lst (l.reverse.map V.int)) := by rw [upd_same, List.map_reverse]
        have nk : k ∉ M.fs := s7.no c hk
        generalize upd H7 k (.lst (l.map V.int).reverse) = H8 at s8 gp8 gk8
        -- the liked
        refine ⟨fun σ' H' => ∃ (k' : Addr) (lk : List Int), σ' = [some (.ref M.dm), some (.int n), some (.int way), some (.ref L), some (.ref F), some (.int (0 + (i : Nat))), some (.ref p), some (.ref k'), w8, w9, none] ∧ LSt M H Ht H' (bd + 301 + 400 * i + 300) F ws R ∧ H' p = some (.lst (ys.map V.int)) ∧ H' k' = some (.lst (lk.map V.int)) ∧ lk.Perm l ∧ k' ∉ M.fs, ?_, ?_⟩
        · refine ⟨fun _ H' => ∃ b, LSt M H Ht H' b F ws R ∧ b ≤ bd + 301 + 400 * i + 150 ∧ H' p = some (.lst (ys.map V.int)) ∧ H' k = some (.lst (l.reverse.map V.int)), ?_, ?_⟩
          · refine ⟨_, rfl, rfl, _, rfl, ite2 (fun _ => ⟨_, s8, by omega, gp8, gk8⟩) (fun _ => ⟨_, rfl, rfl, _, rfl, ite2 (fun _ => ?_) (fun _ => ⟨_, s8, by omega, gp8, gk8⟩)⟩)⟩
            refine ⟨_, rfl, M, _, 5, rfl, s8.m, by omega, by omega, by omega, fun z H9 hz f9 m9 => ⟨rfl, _, rfl, _, s8.drawn c f9 m9, by omega, f9.lst gp8 np, f9.lst gk8 nk⟩⟩
          · intro b H9 z
            obtain ⟨b9, s9, hb9, gp9, gk9⟩ := z
            refine ite2 (fun _ => ?_) (fun _ => ?_)
            · refine ⟨_, rfl, _, rfl, M, _, k, l.reverse, rfl, s9.m, by omega, gk9, by rw [List.length_reverse]; omega, fun lk k' H10 hpm hk' gk' f10 m10 => ?_⟩
              have s10 := s9.drawn c f10 m10
              exact ⟨k', lk, rfl, ⟨s10.f, s10.m.mono (by omega), s10.gF, s10.pd⟩, f10.lst gp9 np, gk', hpm.trans (List.reverse_perm l), s9.no c hk'⟩
            · exact ⟨k, l.reverse, rfl, ⟨s9.f, s9.m.mono (by omega), s9.gF, s9.pd⟩, gp9, gk9, List.reverse_perm l, nk⟩
        · intro σ' H9 z
          obtain ⟨k', lk, rfl, s9, gp9, gk9, hpm, nk'⟩ := z
          refine ⟨fun v H' => ∃ cut : Nat, v = .int cut ∧ cut ≤ ys.length ∧ LSt M H Ht H' (bd + 301 + 400 * i + 301) F ws R ∧ H' p = some (.lst (ys.map V.int)) ∧ H' k' = some (.lst (lk.map V.int)), ?_, ?_⟩
          · refine ⟨_, rfl, rfl, _, rfl, ite2 (fun _ => ?_) (fun _ => ?_)⟩
            · refine ⟨_, rfl, _, rfl, p, _, rfl, .inl gp9, _, _, rfl, rfl, M, _, ys.length + 1, by rw [List.length_map]; rfl, s9.m, by omega, by omega, by omega, fun cut H10 hcut f10 m10 => ?_⟩
              have s10 := s9.drawn c f10 m10
              exact ⟨cut, rfl, by omega, s10, f10.lst gp9 np, f10.lst gk9 nk'⟩
            · exact ⟨_, rfl, p, _, rfl, .inl gp9, ys.length, by rw [List.length_map], Nat.le_refl _, ⟨s9.f, s9.m.mono (by omega), s9.gF, s9.pd⟩, gp9, gk9⟩
          · intro v H10 z
            obtain ⟨cut, rfl, hcut, s10, gp10, gk10⟩ := z
            have cd : cutV (ys.map V.int) (some (cut : Int)) none = (ys.drop cut).map V.int := by rw [cut_drop, List.map_drop]
            have ct : cutV (ys.map V.int) none (some (cut : Int)) = (ys.take cut).map V.int := by rw [cut_take (by rw [List.length_map]; exact hcut), List.map_take]
            refine ⟨_, rfl, _, rfl, _, rfl, p, _, rfl, SqL.of gp10, fun d1 hd1 => ?_⟩
            rw [cd]
            have s11 := s10.new (o := .lst ((ys.drop cut).map V.int)) c hd1
            have gp11 : (upd H10 d1 (.lst ((ys.drop cut).map V.int))) p = _ := (upd_ne (ne_of_none gp10 hd1)).trans gp10
            have gk11 : (upd H10 d1 (.lst ((ys.drop cut).map V.int))) k' = _ := (upd_ne (ne_of_none gk10 hd1)).trans gk10
            have gd11 : (upd H10 d1 (.lst ((ys.drop cut).map V.int))) d1 = _ := upd_same
            refine ⟨_, rfl, d1, k', _, _, rfl, rfl, gd11, gk11, ?_, fun d2 hd2 => ?_⟩
            · have := hpm.length_eq
              rw [List.length_map, List.length_map, List.length_drop, sizeLine_eq]
              omega
            generalize upd H10 d1 (.lst ((ys.drop cut).map V.int)) = H11 at s11 gp11 hd2
            have s12 := s11.new (o := .lst ((ys.drop cut).map V.int ++ lk.map V.int)) c hd2
            have gp12 : (upd H11 d2 (.lst ((ys.drop cut).map V.int ++ lk.map V.int))) p = _ := (upd_ne (ne_of_none gp11 hd2)).trans gp11
            have gd12 : (upd H11 d2 (.lst ((ys.drop cut).map V.int ++ lk.map V.int))) d2 = _ := upd_same
            generalize upd H11 d2 (.lst ((ys.drop cut).map V.int ++ lk.map V.int)) = H12 at s12 gp12 gd12
            refine ⟨_, rfl, _, rfl, _, rfl, p, _, rfl, SqL.of gp12, fun d3 hd3 => ?_⟩
            rw [ct]
            have s13 := s12.new (o := .lst ((ys.take cut).map V.int)) c hd3
            have gd13 : (upd H12 d3 (.lst ((ys.take cut).map V.int))) d2 = _ := (upd_ne (ne_of_none gd12 hd3)).trans gd12
            have ge13 : (upd H12 d3 (.lst ((ys.take cut).map V.int))) d3 = _ := upd_same
            generalize upd H12 d3 (.lst ((ys.take cut).map V.int)) = H13 at s13 gd13 ge13
            refine ⟨d2, d3, _, _, rfl, rfl, gd13, ge13, ?_, fun d4 hd4 => ?_⟩
            · have := hpm.length_eq
              rw [List.length_append, List.length_map, List.length_map, List.length_map, List.length_drop, List.length_take, sizeLine_eq]
              omega
            have er : (ys.drop cut).map V.int ++ lk.map V.int ++ (ys.take cut).map V.int = (ys.drop cut ++ lk ++ ys.take cut).map V.int := by rw [List.map_append, List.map_append]
            rw [er]
            have s14 := s13.new (o := .lst ((ys.drop cut ++ lk ++ ys.take cut).map V.int)) c hd4
            have gd14 : (upd H13 d4 (.lst ((ys.drop cut ++ lk ++ ys.take cut).map V.int))) d4 = _ := upd_same
            generalize upd H13 d4 (.lst ((ys.drop cut ++ lk ++ ys.take cut).map V.int)) = H14 at s14 gd14
            refine ⟨_, rfl, .inl ⟨rfl, _, SqL.of s14.gF⟩, _, rfl, d4, _, rfl, gd14, fun d5 H15 hd5 f15 gd15 => ?_⟩
            have s15 : LSt M H Ht H15 (bd + 301 + 400 * i + 301) F ws R := ⟨s14.f.tr0 f15, s14.m.frm0 f15, f15.lst s14.gF (fun z => nomatch z), Paired.mapP s14.pd fun _ _ z => z.frm f15⟩
            have s16 := s15.snoc c gd15
            refine ⟨F, _, _, rfl, rfl, s15.gF, by rw [pd_len s15.pd]; exact small1000 (by omega), _, _, _, _, _, _, _, rfl, ⟨s16.f, s16.m.mono (by omega), s16.gF, s16.pd⟩, by rw [List.length_append, hRl]; rfl, fun ns hns => ?_⟩
            rcases List.mem_append.mp hns with h | h
            · exact hRp ns h
            · rw [List.mem_singleton.mp h]
              exact ranked_perm lnd lrg hperm hpm
    · obtain ⟨w5, w6, w7, w8, w9, ws, R, rfl, s1, hRl, hRp⟩ := z
      refine ⟨_, rfl, F, _, rfl, .inl ⟨SqL.of s1.gF, fun r hr1 => q r _ R ?_ hRl hRp ?_ ?_⟩⟩
      · exact ⟨ws, upd_same, Paired.mapP s1.pd fun _ _ z => z.frm (frm_new (TP := fun _ => True) (fs := []) hr1)⟩
      · exact (c.f0.trans s1.f (fun z h => (List.mem_cons.mp h).elim (fun e => .inr (e ▸ c.zF)) .inl)).new hr1
      · exact (s1.m.puts m (s1.old c hr1)).mono (by omega)
end
end Sw
set_option maxHeartbeats 4000000
/-! Swaprow: small words of the law -/
namespace L2
open PySem PySem.Spec PyProof.Rows
theorem pe_isiK {X : Cx} {e : Expr} {te : TE} {p p2 pos : Pos} {n : Str} {T : String} {K : PySem.W.Frag} (hm : X.mg "isinstance" = none) (he : PE X e te) (hmn : X.mg n = none) (hv : bootBuiltins n = some (.type T)) (hK : X.K = K := by rfl) (hg : Gl X "isinstance" := by rfl) (hgn : Gl X n := by rfl) (hn : n ≠ "__name__" := by decide) (hd : (n == ("__debug__" : Str)) = false := by decide)
    (he1 : starEach [e, .Name n p2] X.env = (false, eval e X.env) :: starEach [.Name n p2] X.env := by rfl) (he2 : starEach [.Name n p2] X.env = (false, eval (.Name n p2) X.env) :: starEach [] X.env := by rfl) (hpl : (backTo pos (starEach [.Name n p2] X.env)).any (·.1) = false := by rfl) :
    PE X (.Call (.Name "isinstance" p) [e, .Name n p2] [] pos) (tCB (rIsT K T) (tCons te (tCons (tC (.ty T)) tNil))) := by
  subst hK
  exact pe_isi hm he hmn hv hg hgn hn hd he1 he2 hpl
end L2
namespace Sw
open PySem L2
theorem getD_R {R : List (List Int)} {i : Nat} {l : List Int} (h : R[i]? = some l) : R.getD i [] = l := by rw [List.getD_eq_getElem?_getD, h]; rfl
theorem eqv_lints : ∀ (a b : List Int), PyData.eqv (.list (a.map PyData.int)) (.list (b.map PyData.int)) = decide (a = b) := fun a b => by
  simp only [PyData.eqv]
  exact eqv_ints a b
theorem dp_bls {K : PySem.W.Frag} {H : Hp} : ∀ (bs : List Bool), DpAll K H (bs.map V.bl) (bs.map PyData.bool)
  | [] => .nil
  | b :: bs => .cons (.bl b) (dp_bls bs)
theorem sh_bls (bs : List Bool) : Sh 3 (.list (bs.map PyData.bool)) := sh_lst fun d hd => by
  obtain ⟨b, _, rfl⟩ := List.mem_map.mp hd
  exact ⟨by simp [PyData.canLay0], by simp [PyData.depth]⟩
theorem bls_nil_eqv : ∀ {bs : List Bool}, bs ≠ [] → PyData.eqv (.list (bs.map PyData.bool)) (.list []) = false
  | [], h => absurd rfl h
  | b :: bs, _ => by simp [PyData.eqv, PyData.eqvAll]
section
variable {P : Program} {w : World} {K : PySem.W.Frag} {mg : Str → Option Value} {base : Heap} {A : Ad}
theorem sc_likes : FnScope ["_law_lists_here", "_law_who", "_law_thing", "_law_far"] ["_law_lists_here", "_law_who", "_law_thing", "_law_far"] (defScope s_L_likes) := ⟨rfl, rfl, rfl, by decide +kernel, rfl, by decide +kernel, by decide +kernel⟩
theorem ok_likes (T : Tx K mg A) (D : DefAt K mg "_law_likes" s_L_likes) : Df P w K mg base CX0 1 "_law_likes" ["_law_lists_here", "_law_who", "_law_thing", "_law_far"] spLikes := by
  refine Df.of0 D (fun _ _ _ _ _ _ us hl => match us, hl with | [_, _, _, _], _ => rfl) sc_likes (fun vs H Q E h => ?_) (fun f cdv A' outer s H vs Q E hr h => ?_)
  · obtain ⟨r, R, i, l, y, z, rfl, _⟩ := h
    rfl
  · obtain ⟨r, R, i, l, y, z, rfl, hT, hR, hy, hz, q⟩ := h
    have nd := sc_likes.nd
    have hu := hu_of hr
    obtain ⟨ps, e, p⟩ := hT
    obtain ⟨x, hx, a, rfl, tf⟩ := pd_get p hR
    refine ⟨_, (pss_one (ps_ret (pe_cmpR op_lt (pe_tupIx (pe_ix ix_tup (pv 0) (pv 1) (fun _ _ => rfl)) (pv 2) ⟨rfl, rfl, rfl, rfl⟩) (pe_tupIx (pe_ix ix_tup (pv 0) (pv 1) (fun _ _ => rfl)) (pv 3) ⟨rfl, rfl, rfl, rfl⟩) (nomark _)))), ?_⟩
    refine ⟨_, rfl, _, rfl, r, _, _, _, rfl, rfl, SqT.of e, atI_nat hx, a, l, rfl, tf, _, rfl, y, _, rfl, tf, ixo_get hy, fun m h => ixo_first h, ?_⟩
    refine ⟨_, rfl, _, rfl, r, _, _, _, rfl, rfl, SqT.of e, atI_nat hx, a, l, rfl, tf, _, rfl, z, _, rfl, tf, ixo_get hz, fun m h => ixo_first h, _, _, rfl, rfl, ?_⟩
    unfold pref at q
    rw [getD_R hR] at q
    rw [← dec_nat] at q
    exact q
theorem sc_may : FnScope ["_law_lists_here", "_law_row", "_law_at"] ["_law_lists_here", "_law_row", "_law_at"] (defScope s_L_may) := ⟨rfl, rfl, rfl, by decide +kernel, rfl, by decide +kernel, by decide +kernel⟩
theorem ok_may (T : Tx K mg A) (D : DefAt K mg "_law_may" s_L_may) (D1 : Df P w K mg base CX0 1 "_law_likes" ["_law_lists_here", "_law_who", "_law_thing", "_law_far"] spLikes) : Df P w K mg base CX0 2 "_law_may" ["_law_lists_here", "_law_row", "_law_at"] spMay := by
  refine Df.of0 D (fun _ _ _ _ _ _ us hl => match us, hl with | [_, _, _], _ => rfl) sc_may (fun vs H Q E h => ?_) (fun f cdv A' outer s H vs Q E hr h => ?_)
  · obtain ⟨r, a, n, i, x, rfl, _⟩ := h
    rfl
  · obtain ⟨r, a, n, i, x, rfl, hT, hI, vl, hi, q⟩ := h
    have nd := sc_may.nd
    have hu := hu_of hr
    obtain ⟨R, Ar⟩ := x
    have hA : Ar.length = n := vl.pA.1
    have hR : R.length = n := vl.lR
    have e1 := ex_at (A := Ar) (i := i) (by omega)
    have e2 := ex_at (A := Ar) (i := i + 1) (by omega)
    have r1 : R[i]? = some R[i] := List.getElem?_eq_getElem (by omega)
    have r2 : R[i + 1]? = some R[i + 1] := List.getElem?_eq_getElem (by omega)
    have p1 := vl.pR _ (List.mem_of_getElem? r1)
    have p2 := vl.pR _ (List.mem_of_getElem? r2)
    have m1 := (vl.pA.2.2 _).mp (List.mem_of_getElem? e1)
    have m2 := (vl.pA.2.2 _).mp (List.mem_of_getElem? e2)
    have ei : ((i : Nat) : Int) + 1 = ((i + 1 : Nat) : Int) := by omega
    refine ⟨_, (pss_one (ps_ret (pe_and (pe_df D1 hr pass0 (pa_cons (pv 0) (pa_cons (pv 2) (pa_cons (pe_ix ix_tup (pv 1) (pe_op op_add (pv 2) pe_int) (fun _ _ => rfl)) (pa_cons (pe_ix ix_tup (pv 1) (pv 2) (fun _ _ => rfl)) pa_nil))))) (pe_one (pe_df D1 hr pass0 (pa_cons (pv 0) (pa_cons (pe_op op_add (pv 2) pe_int) (pa_cons (pe_ix ix_tup (pv 1) (pv 2) (fun _ _ => rfl)) (pa_cons (pe_ix ix_tup (pv 1) (pe_op op_add (pv 2) pe_int) (fun _ _ => rfl)) pa_nil))))))))), ?_⟩
    refine ⟨_, rfl, _, rfl, _, rfl, _, rfl, _, _, rfl, rfl, a, _, _, _, rfl, rfl, SqT.of hI, at_of ei (vat e2), _, rfl, _, rfl, a, _, _, _, rfl, rfl, SqT.of hI, atI_nat (vat e1), r, R, i, R[i], _, _, rfl, hT, r1, (p1.2.2 _).mpr m2, (p1.2.2 _).mpr m1, _, rfl, ?_⟩
    have q' : Q (V.bl (pref R i (Ar.getD (i + 1) 0) (Ar.getD i 0) && pref R (i + 1) (Ar.getD i 0) (Ar.getD (i + 1) 0))) H := q
    refine iteB (fun hb => ?_) (fun hb => ?_)
    · rw [hb, Bool.true_and] at q'
      refine ⟨_, rfl, _, rfl, _, _, rfl, rfl, _, rfl, _, rfl, a, _, _, _, rfl, rfl, SqT.of hI, atI_nat (vat e1), _, rfl, _, rfl, _, _, rfl, rfl, a, _, _, _, rfl, rfl, SqT.of hI, at_of ei (vat e2), r, R, i + 1, R[i + 1], _, _, rfl, hT, r2, (p2.2.2 _).mpr m1, (p2.2.2 _).mpr m2, q'⟩
    · rw [hb, Bool.false_and] at q'
      exact q'
theorem sc_after : FnScope ["_law_row", "_law_at"] ["_law_row", "_law_at"] (defScope s_L_after) := ⟨rfl, rfl, rfl, by decide +kernel, rfl, by decide +kernel, by decide +kernel⟩
theorem ok_after (T : Tx K mg A) (D : DefAt K mg "_law_after" s_L_after) : Df P w K mg base CX0 1 "_law_after" ["_law_row", "_law_at"] spSwapped := by
  refine Df.of0 D (fun _ _ _ _ _ _ us hl => match us, hl with | [_, _], _ => rfl) sc_after (fun vs H Q E h => ?_) (fun f cdv A' outer s H vs Q E hr h => ?_)
  · obtain ⟨a, ns, i, rfl, _⟩ := h
    rfl
  · obtain ⟨a, ns, i, rfl, hI, hl, hi, q⟩ := h
    refine ⟨_, pss_one (ps_ret (pe_op op_catE (pe_op op_catE (pe_slice sl_tupE (pv 0) po_none (po_some (pv 1))) (pe_tup (pa_cons (pe_ix ix_tup (pv 0) (pe_op op_add (pv 1) pe_int) (fun _ _ => rfl)) (pa_cons (pe_ix ix_tup (pv 0) (pv 1) (fun _ _ => rfl)) pa_nil))))
      (pe_slice sl_tupE (pv 0) (po_some (pe_op op_add (pv 1) pe_int)) po_none))), ?_⟩
    have el : (ns.map V.int).length = ns.length := List.length_map ..
    refine ⟨_, rfl, _, rfl, _, rfl, a, _, rfl, hI, fun p1 H1 f1 g1 => ?_⟩
    rw [cut_take (by omega)] at g1
    have hI1 := hI.frm f1
    refine ⟨_, rfl, _, rfl, _, _, rfl, rfl, a, _, _, _, rfl, rfl, SqT.of hI1, at_of (j := i + 1) (by omega) (vat (ex_at hi)), _, rfl, _, rfl, a, _, _, _, rfl, rfl, SqT.of hI1, atI_nat (vat (ex_at (by omega))), by show 2 ≤ sizeLine; decide, fun p2 hp2 => ?_⟩
    have f2 := f1.new (o := .tup [.int (ns.getD (i + 1) 0), .int (ns.getD i 0)]) hp2
    refine ⟨p1, p2, _, _, rfl, rfl, (frm_new (TP := fun _ => True) (fs := []) hp2).tp _ _ g1, upd_same, by rw [List.length_take, el]; simp; omega, fun p3 H3 f3 g3 => ?_⟩
    have f4 := f2.tr f3
    refine ⟨_, rfl, _, rfl, _, _, rfl, rfl, _, rfl, a, _, rfl, hI.frm f4, fun p4 H4 f5 g4 => ?_⟩
    have e2 : ((i : Nat) : Int) + 2 = ((i + 2 : Nat) : Int) := by omega
    rw [e2, cut_drop] at g4
    refine ⟨p3, p4, _, _, rfl, rfl, f5.tp _ _ g3, g4, by rw [List.length_append, List.length_take, List.length_drop, el]; simp; omega, fun p5 H5 f6 g5 => q p5 H5 (f4.tr (f5.tr f6)) ?_⟩
    unfold TI
    rw [g5, swp_cut hi]
theorem ll1 : ¬ (Sum.inr "lists" : Key) = (Sum.inr "row" : Key) := by decide +kernel
theorem ll2 : ¬ (Sum.inr "lists" : Key) = (Sum.inr "past" : Key) := by decide +kernel
theorem ll3 : ¬ (Sum.inr "lists" : Key) = (Sum.inr "deeds" : Key) := by decide +kernel
theorem ll4 : ¬ (Sum.inr "row" : Key) = (Sum.inr "past" : Key) := by decide +kernel
theorem ll5 : ¬ (Sum.inr "row" : Key) = (Sum.inr "deeds" : Key) := by decide +kernel
theorem ll6 : ¬ (Sum.inr "past" : Key) = (Sum.inr "deeds" : Key) := by decide +kernel
theorem put_none {kvs : List (Key × V)} {k : Key} {x : V} (h : ∀ p ∈ kvs, ¬ p.1 = k) : putK kvs k x = kvs ++ [(k, x)] := by
  refine putK_new x ?_
  unfold valV
  have : kvs.find? (fun kv => decide (kv.1 = k)) = none := List.find?_eq_none.mpr fun p hp => by simpa using h p hp
  rw [this]; rfl
theorem kept_new (a b c d : V) : mergeK [] [((Sum.inr "lists" : Key), a), (Sum.inr "row", b), (Sum.inr "past", c), (Sum.inr "deeds", d)] = [((Sum.inr "lists" : Key), a), (Sum.inr "row", b), (Sum.inr "past", c), (Sum.inr "deeds", d)] := by
  show putK (putK (putK (putK ([] : List (Key × V)) (Sum.inr "lists" : Key) a) (Sum.inr "row" : Key) b) (Sum.inr "past" : Key) c) (Sum.inr "deeds" : Key) d = _
  have h1 : putK ([] : List (Key × V)) (Sum.inr "lists" : Key) a = [((Sum.inr "lists" : Key), a)] := rfl
  rw [h1, put_none (kvs := [((Sum.inr "lists" : Key), a)]) (fun p hp => by rw [List.mem_singleton.mp hp]; exact ll1)]
  rw [put_none (k := (Sum.inr "past" : Key)) (fun p hp => ?_)]
  rw [put_none (k := (Sum.inr "deeds" : Key)) (fun p hp => ?_)]
  · rfl
  · simp only [List.cons_append, List.nil_append, List.mem_cons, List.not_mem_nil, or_false] at hp
    rcases hp with rfl | rfl | rfl
    · exact ll3
    · exact ll5
    · exact ll6
  · simp only [List.cons_append, List.nil_append, List.mem_cons, List.not_mem_nil, or_false] at hp
    rcases hp with rfl | rfl
    · exact ll2
    · exact ll4
theorem sc_recorded : FnScope ["_law_lists_here", "_law_row"] ["_law_lists_here", "_law_row"] (defScope s_L_recorded) := ⟨rfl, rfl, rfl, by decide +kernel, rfl, by decide +kernel, by decide +kernel⟩
theorem ok_recorded (T : Tx K mg A) (D : DefAt K mg "_law_recorded" s_L_recorded) : Df P w K mg base CX0 1 "_law_recorded" ["_law_lists_here", "_law_row"] spRecorded := by
  refine Df.of0 D (fun _ _ _ _ _ _ us hl => match us, hl with | [_, _], _ => rfl) sc_recorded (fun vs H Q E h => ?_) (fun f cdv A' outer s H vs Q E hr h => ?_)
  · obtain ⟨r, a, x, rfl, _⟩ := h
    rfl
  · obtain ⟨r, a, x, rfl, hT, hI, q⟩ := h
    have nd := sc_recorded.nd
    have hu := hu_of hr
    refine ⟨_, (pss_one (ps_ret (pe_disp (pps_cons pe_str (pv 0) (pps_cons pe_str (pv 1) (pps_cons pe_str (pe_lst pa_nil) (pps_cons pe_str (pe_lst pa_nil) pps_nil)))) (by rfl) (by rfl) (fun z => by cases z) (by decide)))), ?_⟩
    intro k hk
    refine ⟨_, rfl, _, rfl, by show 0 ≤ sizeLine; decide, fun p hp => ⟨by show 0 ≤ sizeLine; decide, fun d hd => ?_⟩⟩
    have f0 : Frm [] H (upd H k (.dK [])) := frm_new hk
    have f1 := f0.new (o := .lst []) hp
    have f2 := f1.new (o := .lst []) hd
    have hk1 : (upd (upd H k (.dK [])) p (.lst [])) k = some (.dK []) := by rw [upd_ne (ne_of_none upd_same hp), upd_same]
    have hk2 : (upd (upd (upd H k (.dK [])) p (.lst [])) d (.lst [])) k = some (.dK []) := by rw [upd_ne (ne_of_none hk1 hd)]; exact hk1
    have hp2 : (upd (upd (upd H k (.dK [])) p (.lst [])) d (.lst [])) p = some (.lst []) := by rw [upd_ne (ne_of_none upd_same hd), upd_same]
    refine ⟨hk2, [(Sum.inr "lists", .ref r), (Sum.inr "row", .ref a), (Sum.inr "past", .ref p), (Sum.inr "deeds", .ref d)], rfl, by show 4 ≤ 15; decide, ?_⟩
    rw [kept_new]
    have f3 := f2.put (p := k) (o := .dK [(Sum.inr "lists", .ref r), (Sum.inr "row", .ref a), (Sum.inr "past", .ref p), (Sum.inr "deeds", .ref d)]) (.inl hk) (pl_dk hk2)
    have np : p ≠ k := ne_of hp2 hk2 fun z => nomatch z
    have ndk : d ≠ k := fun z => by rw [z, hk1] at hd; cases hd
    refine q k _ f3 hk fun av hav => ⟨⟨r, a, p, d, upd_same, hT.frm f3, hI.frm f3, fun z => hav p z (f0.tk _ hp), fun z => hav d z (f1.tk _ hd), ⟨[], ?_, .nil⟩, ⟨[], ?_, .nil⟩⟩, fun z => hav k z hk⟩
    · rw [upd_ne np]; exact hp2
    · rw [upd_ne ndk, upd_same]
theorem sc_any_row : FnScope ["_law_m", "_law_many", "_law_things"] ["_law_m", "_law_many"] (defScope s_L_any_row) := ⟨rfl, rfl, rfl, by decide +kernel, rfl, by decide +kernel, by decide +kernel⟩
theorem ok_any_row (T : Tx K mg A) (D : DefAt K mg "_law_any_row" s_L_any_row) (D1 : Df P w K mg base CX0 2 "_law_draw" ["_law_m", "_law_top"] spDraw) (D2 : Df P w K mg base CX0 3 "_law_mixed_up" ["_law_m", "_law_things"] spMixedUp)
    (D3 : Df P w K mg base CX0 3 "_law_walked" ["_law_m", "_law_many"] spWalked) : Df P w K mg base CX0 4 "_law_any_row" ["_law_m", "_law_many"] spAnyRow := by
  refine Df.of0 D (fun _ _ _ _ _ _ us hl => match us, hl with | [_, _], _ => rfl) sc_any_row (fun vs H Q E h => ?_) (fun f cdv A' outer s H vs Q E hr h => ?_)
  · obtain ⟨M, bd, n, rfl, _⟩ := h
    rfl
  · obtain ⟨M, bd, n, rfl, m, hbd, n1, n40, q⟩ := h
    have nd := sc_any_row.nd
    have hu := hu_of hr
    refine ⟨_, (pss_cons (ps_if (pt_cmpR op_eq (pe_df D1 (hr.mono (by decide)) pass0 (pa_cons (pv 0) (pa_cons pe_int pa_nil))) pe_int (nomark _)) (pss_one (ps_ret (pe_callTy call_tuple_of (by rfl) T.tuple (by decide +kernel) (pa_cons (pe_df D2 hr pass0 (pa_cons (pv 0) (pa_cons (pe_listRg rfl (by rfl) T.list (prg_1 (by rfl) T.range (pv 1))) pa_nil))) pa_nil)))) pss_nil) (pss_one (ps_ret (pe_callTy call_tuple_of (by rfl) T.tuple (by decide +kernel) (pa_cons (pe_lc (own := [("_law_things", 2)]) (g := gName 2) (tt := tYes) (by rfl) nd (pi_list (pe_df D3 hr pass0 (pa_cons (pv 0) (pa_cons (pv 1) pa_nil)))) (blkOk_by (own := [("_law_things", 2)]) (N := ["_law_m", "_law_many", "_law_things"]) (sc := defScope s_L_any_row) (by decide +kernel)) (fun _ _ _ _ _ => pg_name (i := 2) nd rfl (Or.inl rfl)) (fun _ _ _ _ _ => pts_nil) (fun _ _ _ _ _ => (pe_ix (show IxR _ (rIxL K) from ix_list) (pv 2) (pe_un un_neg pe_int) (fun _ _ => rfl)))) pa_nil))))), ?_⟩
    refine ⟨_, rfl, M, bd, 3, rfl, m, by omega, by omega, by omega, fun z H1 hz f1 m1 => ⟨rfl, _, rfl, ite2 (fun _ => ?_) (fun _ => ?_)⟩⟩
    · refine ⟨_, rfl, _, rfl, _, rfl, .of_le (by decide) (by omega) (by decide) (by omega), fun r hr0 => ?_⟩
      rw [rgV_rng]
      have f2 := f1.new (o := .lst ((rng n).map V.int)) hr0
      refine ⟨M, bd + 1, r, rng n, rfl, m1.puts m (f1.tk _ hr0), by omega, upd_same, by rw [rng_len]; omega, fun ys p H2 hpm hp gp f3 m3 => ?_⟩
      have f4 := f2.tr f3
      refine ⟨p, _, rfl, .inl ⟨SqL.of gp, fun t ht => q t _ ys upd_same ((permN_rng n).perm hpm) (f4.new ht) ((m3.puts m (f4.tk _ ht)).mono (by omega))⟩⟩
    · refine ⟨_, rfl, _, rfl, M, bd + 1, n, rfl, m1, by omega, n1, n40, fun L H2 hs row held mv W hL gL pd hlen f2 m2 => ?_⟩
      have f3 := f1.tr f2
      have hrl : row.length = n := W.perm.1
      have hsl : hs.length = n := (pd_len pd).trans W.hl
      refine ⟨L, rfl, ⟨_, SqL.of gL⟩, fun C hC => lc_list (K := K) (a := L) (xs := hs) (fun j H' => Frm [] H2 H' ∧ H' C = some (.lst ((row.take j).map V.int))) ⟨frm_new hC, upd_same⟩ (fun j H' _ z => SqL.of (z.1.lst gL (fun z => nomatch z))) (fun j x H' hx z => ?_) (fun H' z => ?_)⟩
      · obtain ⟨f4, g4⟩ := z
        obtain ⟨l, hl, a, rfl, ga, za⟩ := pd_get' pd hx
        have hj : j < row.length := by rw [hrl, ← hsl]; exact (List.getElem?_eq_some_iff.mp hx).1
        have e1 : l.getLast? = some row[j] := by rw [W.last j l hl, List.getElem?_eq_getElem hj]
        have e2 : atI (l.map V.int) (-1) = some (.int row[j]) := by
          obtain ⟨ys, e3⟩ := List.getLast?_eq_some_iff.mp e1
          rw [e3, List.map_append]
          exact atI_last _ _
        refine ⟨rfl, _, rfl, _, rfl, a, _, _, _, rfl, rfl, SqL.of (f4.lst ga (fun z => nomatch z)), e2, _, g4, by rw [List.length_map, List.length_take]; exact small1000 (by omega), f4.put (.inl hC) (pl_lst g4), ?_⟩
        rw [upd_same, List.take_add_one, List.getElem?_eq_getElem hj, List.map_append]
        rfl
      · obtain ⟨f4, g4⟩ := z
        rw [hsl, List.take_of_length_le (by omega)] at g4
        refine ⟨C, _, rfl, .inl ⟨SqL.of g4, fun t ht => q t _ row upd_same W.perm ((f3.tr0 f4).new ht) (((m2.frm0 f4).puts m (f3.tk _ (f4.tk _ ht))).mono (by omega))⟩⟩
theorem sc_is_below : FnScope ["_law_thing", "_law_top"] ["_law_thing", "_law_top"] (defScope s_L_is_below) := ⟨rfl, rfl, rfl, by decide +kernel, rfl, by decide +kernel, by decide +kernel⟩
theorem ok_is_below (T : Tx K mg A) (D : DefAt K mg "_law_is_below" s_L_is_below) : Df P w K mg base CX0 1 "_law_is_below" ["_law_thing", "_law_top"] spBelow := by
  refine Df.of0 D (fun _ _ _ _ _ _ us hl => match us, hl with | [_, _], _ => rfl) sc_is_below (fun vs H Q E h => ?_) (fun f cdv A' outer s H vs Q E hr h => ?_)
  · obtain ⟨x, n, b, rfl, _⟩ := h
    rfl
  · obtain ⟨x, n, b, rfl, kd, q⟩ := h
    have nd := sc_is_below.nd
    have hu := hu_of hr
    refine ⟨_, (pss_one (ps_ret (pe_and (pe_isi (T := "int") T.isinstance (pv 0) T.int (by decide +kernel)) (pe_and (pe_not (pe_isi (T := "bool") T.isinstance (pv 0) T.bool (by decide +kernel))) (pe_one (pe_chain op_le op_lt pe_int (pv 0) (pv 1))))))), ?_⟩
    cases kd with
    | int z =>
      refine ⟨_, rfl, _, true, rfl, isT_int z, true, rfl, iteT ⟨_, rfl, _, false, rfl, isT_bool z, false, rfl, _, rfl, iteT ⟨_, rfl, _, _, rfl, rfl, _, rfl, ite2 (fun h => ⟨_, rfl, _, _, rfl, rfl, ?_⟩) (fun h => ?_)⟩⟩⟩
      · have e : bel n (.int z) = decide (z < n) := by show (decide (0 ≤ z) && decide (z < n)) = _; rw [h]; rfl
        rw [e] at q
        exact q
      · have e : bel n (.int z) = false := by
          show (decide (0 ≤ z) && decide (z < n)) = _
          rw [Bool.eq_false_iff.mpr h]; rfl
        rw [e] at q
        exact q
    | bl z => exact ⟨_, rfl, _, true, rfl, isT_int_bl z, true, rfl, iteT ⟨_, rfl, _, true, rfl, isT_bool_bl z, true, rfl, _, rfl, iteF q⟩⟩
    | non => exact ⟨_, rfl, _, false, rfl, isT_int_non, false, rfl, iteF q⟩
    | str z => exact ⟨_, rfl, _, false, rfl, isT_int_str z, false, rfl, iteF q⟩
    | tup h => exact ⟨_, rfl, _, false, rfl, isT_int_tup h, false, rfl, iteF q⟩
    | lst h => exact ⟨_, rfl, _, false, rfl, isT_int_lst h, false, rfl, iteF q⟩
theorem sc_is_ranked : FnScope ["_law_thing", "_law_many", "_law_one"] ["_law_thing", "_law_many"] (defScope s_L_is_ranked) := ⟨rfl, rfl, rfl, by decide +kernel, rfl, by decide +kernel, by decide +kernel⟩
theorem ok_is_ranked (T : Tx K mg A) (D : DefAt K mg "_law_is_ranked" s_L_is_ranked) : Df P w K mg base CX0 1 "_law_is_ranked" ["_law_thing", "_law_many"] spIsRanked := by
  refine Df.of0 D (fun _ _ _ _ _ _ us hl => match us, hl with | [_, _], _ => rfl) sc_is_ranked (fun vs H Q E h => ?_) (fun f cdv A' outer s H vs Q E hr h => ?_)
  · obtain ⟨x, n, o, rfl, _⟩ := h
    rfl
  · obtain ⟨x, n, o, rfl, hn, rk, q⟩ := h
    have nd := sc_is_ranked.nd
    have hu := hu_of hr
    refine ⟨_, (pss_cons (ps_if (PW.pt (pw_or (pt_not (pt_val (pe_isi (T := "tuple") T.isinstance (pv 0) T.tuple (by decide +kernel)))) (pw_or1 (pt_cmpR op_ne (pe_lenR T.len (pv 0)) (pv 1) (nomark _))))) (pss_one (ps_ret pe_bl)) pss_nil) (pss_cons (ps_if (pt_cmpR (op_neD hr.units) (pe_lc (own := [("_law_one", 2)]) (g := gName 2) (by rfl) nd (pi_tup (pv 0)) (blkOk_by (own := [("_law_one", 2)]) (N := ["_law_thing", "_law_many", "_law_one"]) (sc := defScope s_L_is_ranked) (by decide +kernel)) (fun _ _ _ _ _ => pg_name (i := 2) nd rfl (Or.inl rfl)) (fun _ _ _ _ _ => (pts_one (PW.pt (pw_or (pt_not (pt_val (pe_isiK (K := K) (T := "int") T.isinstance (pv 2) T.int (by decide +kernel)))) (pw_or1 (pt_val (pe_isiK (K := K) (T := "bool") T.isinstance (pv 2) T.bool (by decide +kernel)))))))) (fun _ _ _ _ _ => (pv 2))) (pe_lst pa_nil) (nomark _)) (pss_one (ps_ret pe_bl)) pss_nil) (pss_one (ps_ret (pe_cmpR (op_eqD hr.units) (pe_callB cr_sortedT (by rfl) T.sorted (by decide +kernel) (pa_cons (pv 0) pa_nil)) (pe_listRg rfl (by rfl) T.list (prg_1 (by rfl) T.range (pv 1))) (nomark _)))))), ?_⟩
    have q0 : o.isSome = false → ∀ H', Frm [] H H' → Q (.bl false) H' := fun e H' f => by
      have := q H' f
      rw [e] at this
      exact this
    cases rk with
    | non => exact ⟨_, rfl, _, false, rfl, isT_tup_non, false, rfl, iteT (q0 rfl H (.refl H))⟩
    | lst h => exact ⟨_, rfl, _, false, rfl, isT_tup_lst h, false, rfl, iteT (q0 rfl H (.refl H))⟩
    | @int a ns h hl =>
      refine ⟨_, rfl, _, true, rfl, isT_tupF h, true, rfl, iteF ⟨_, rfl, a, _, rfl, h.rd, _, rfl, rfl, _, rfl, ?_⟩⟩
      rw [List.length_map]
      by_cases hlen : ns.length = n
      · refine iteNS (by rw [hlen]) ?_
        refine ⟨_, rfl, a, rfl, ⟨_, h.sq⟩, fun d hd => lc_tup (K := K) (a := a) (xs := ns.map V.int) (fun i H' => Frm [] H H' ∧ H' d = some (.lst []))
          ⟨frm_new hd, upd_same⟩ (fun i H' _ z => (h.frm z.1).sq) (fun i x H' hx z => ?_) (fun H' z => ?_)⟩
        · obtain ⟨f1, g1⟩ := z
          rw [List.getElem?_map] at hx
          obtain ⟨y, hy, rfl⟩ := Option.map_eq_some_iff.mp hx
          exact ⟨rfl, _, rfl, _, true, rfl, isT_int y, true, rfl, iteF ⟨_, rfl, _, false, rfl, isT_bool y, false, rfl, iteF ⟨f1, g1⟩⟩⟩
        · obtain ⟨f1, g1⟩ := z
          refine ⟨by show 0 ≤ sizeLine; decide, fun l hl2 => ?_⟩
          have f2 := f1.new (o := .lst []) hl2
          have g2 : (upd H' l (.lst [])) d = some (.lst []) := by rw [upd_ne (ne_of_none g1 hl2)]; exact g1
          refine ⟨.list [], .list [], .lst (SqL.of g2) .nil, .lst (SqL.of upd_same) .nil, sh_nil1.shaped (by decide), sh_nil1.shaped (by decide), _, rfl, ?_⟩
          refine iteN (by simp [PyData.eqv, PyData.eqvAll]) ?_
          refine ⟨_, rfl, a, ns, rfl, (h.frm f2).rd, by omega, fun ms p hpm hso hp => ?_⟩
          have f3 := f2.new (o := .lst (ms.map V.int)) hp
          refine ⟨_, rfl, _, rfl, .of_le (by decide) (by omega) (by decide) (by omega), fun r hr0 => ?_⟩
          rw [rgV_rng]
          have f4 := f3.new (o := .lst ((rng n).map V.int)) hr0
          have gp : (upd (upd (upd H' l (.lst [])) p (.lst (ms.map V.int))) r (.lst ((rng n).map V.int))) p = some (.lst (ms.map V.int)) := by rw [upd_ne (ne_of_none upd_same hr0), upd_same]
          refine ⟨.list (ms.map PyData.int), .list ((rng n).map PyData.int), .lst (SqL.of gp) (dp_ints ms), .lst (SqL.of upd_same) (dp_ints (rng n)), (sh_ints ms).shaped (by decide), (sh_ints (rng n)).shaped (by decide), ?_⟩
          rw [eqv_lints, sorted_is hpm hso hlen, ← opt_is]
          exact q _ f4
      · have e2 : (!decide (V.int (ns.length : Int) = V.int (n : Int))) = true := by
          rw [decide_eq_false (fun e => hlen (by have := V.int.inj e; omega))]; rfl
        refine iteP e2 ?_
        exact q0 (by rw [opt_is]; exact rk_len hlen) H (.refl H)
    | @bl a bs h hne hl =>
      refine ⟨_, rfl, _, true, rfl, isT_tup h, true, rfl, iteF ⟨_, rfl, a, _, rfl, .inl h, _, rfl, rfl, _, rfl, ?_⟩⟩
      rw [List.length_map]
      by_cases hlen : bs.length = n
      · refine iteNS (by rw [hlen]) ?_
        refine ⟨_, rfl, a, rfl, ⟨_, SqT.of h⟩, fun d hd => lc_tup (K := K) (a := a) (xs := bs.map V.bl) (fun i H' => Frm [] H H' ∧ H' d = some (.lst ((bs.take i).map V.bl)))
          ⟨frm_new hd, upd_same⟩ (fun i H' _ z => SqT.of (z.1.tp _ _ h)) (fun i x H' hx z => ?_) (fun H' z => ?_)⟩
        · obtain ⟨f1, g1⟩ := z
          rw [List.getElem?_map] at hx
          obtain ⟨y, hy, rfl⟩ := Option.map_eq_some_iff.mp hx
          have hil := (List.getElem?_eq_some_iff.mp hy).1
          refine ⟨rfl, _, rfl, _, true, rfl, isT_int_bl y, true, rfl, iteF ⟨_, rfl, _, true, rfl, isT_bool_bl y, true, rfl, iteT ⟨_, rfl, _, g1, by rw [List.length_map, List.length_take]; exact small1000 (by omega), f1.put (.inl hd) (pl_lst g1), ?_⟩⟩⟩
          rw [upd_same, List.take_add_one, hy, List.map_append]
          rfl
        · obtain ⟨f1, g1⟩ := z
          rw [List.length_map, List.take_length] at g1
          refine ⟨by show 0 ≤ sizeLine; decide, fun l hl2 => ?_⟩
          have f2 := f1.new (o := .lst []) hl2
          have g2 : (upd H' l (.lst [])) d = some (.lst (bs.map V.bl)) := by rw [upd_ne (ne_of_none g1 hl2)]; exact g1
          refine ⟨.list (bs.map PyData.bool), .list [], .lst (SqL.of g2) (dp_bls bs), .lst (SqL.of upd_same) .nil, (sh_bls bs).shaped (by decide), sh_nil1.shaped (by decide), _, rfl, ?_⟩
          rw [bls_nil_eqv hne]
          exact iteT (q0 rfl _ f2)
      · have e2 : (!decide (V.int (bs.length : Int) = V.int (n : Int))) = true := by
          rw [decide_eq_false (fun e => hlen (by have := V.int.inj e; omega))]; rfl
        refine iteP e2 ?_
        exact q0 rfl H (.refl H)
end
end Sw
set_option maxHeartbeats 4000000
/-! Swaprow: errors and changes of the record -/
namespace Sw
open PySem L2
theorem kg_lists (a b c d : V) : valV [((Sum.inr "lists" : Key), a), (Sum.inr "row", b), (Sum.inr "past", c), (Sum.inr "deeds", d)] (Sum.inr "lists" : Key) = some a := by
  rw [valV_pos rfl]
theorem kg_row (a b c d : V) : valV [((Sum.inr "lists" : Key), a), (Sum.inr "row", b), (Sum.inr "past", c), (Sum.inr "deeds", d)] (Sum.inr "row" : Key) = some b := by
  rw [valV_neg ll1, valV_pos rfl]
theorem kg_past (a b c d : V) : valV [((Sum.inr "lists" : Key), a), (Sum.inr "row", b), (Sum.inr "past", c), (Sum.inr "deeds", d)] (Sum.inr "past" : Key) = some c := by
  rw [valV_neg ll2, valV_neg ll4, valV_pos rfl]
theorem kg_deeds (a b c d : V) : valV [((Sum.inr "lists" : Key), a), (Sum.inr "row", b), (Sum.inr "past", c), (Sum.inr "deeds", d)] (Sum.inr "deeds" : Key) = some d := by
  rw [valV_neg ll3, valV_neg ll5, valV_neg ll6, valV_pos rfl]
theorem kp_lists (a b c d v : V) : putK [((Sum.inr "lists" : Key), a), (Sum.inr "row", b), (Sum.inr "past", c), (Sum.inr "deeds", d)] (Sum.inr "lists" : Key) v = [((Sum.inr "lists" : Key), v), (Sum.inr "row", b), (Sum.inr "past", c), (Sum.inr "deeds", d)] := by
  unfold putK
  rw [if_pos (by simp)]
  simp only [List.map_cons, List.map_nil, if_neg (Ne.symm ll1), if_neg (Ne.symm ll2), if_neg (Ne.symm ll3), if_true]
theorem kp_row (a b c d v : V) : putK [((Sum.inr "lists" : Key), a), (Sum.inr "row", b), (Sum.inr "past", c), (Sum.inr "deeds", d)] (Sum.inr "row" : Key) v = [((Sum.inr "lists" : Key), a), (Sum.inr "row", v), (Sum.inr "past", c), (Sum.inr "deeds", d)] := by
  unfold putK
  rw [if_pos (by simp)]
  simp only [List.map_cons, List.map_nil, if_neg ll1, if_neg (Ne.symm ll4), if_neg (Ne.symm ll5), if_true]
theorem kp_past (a b c d v : V) : putK [((Sum.inr "lists" : Key), a), (Sum.inr "row", b), (Sum.inr "past", c), (Sum.inr "deeds", d)] (Sum.inr "past" : Key) v = [((Sum.inr "lists" : Key), a), (Sum.inr "row", b), (Sum.inr "past", v), (Sum.inr "deeds", d)] := by
  unfold putK
  rw [if_pos (by simp)]
  simp only [List.map_cons, List.map_nil, if_neg ll2, if_neg ll4, if_neg (Ne.symm ll6), if_true]
theorem kp_deeds (a b c d v : V) : putK [((Sum.inr "lists" : Key), a), (Sum.inr "row", b), (Sum.inr "past", c), (Sum.inr "deeds", d)] (Sum.inr "deeds" : Key) v = [((Sum.inr "lists" : Key), a), (Sum.inr "row", b), (Sum.inr "past", c), (Sum.inr "deeds", v)] := by
  unfold putK
  rw [if_pos (by simp)]
  simp only [List.map_cons, List.map_nil, if_neg ll3, if_neg ll5, if_neg ll6, if_true]
theorem kg_len (a b c d : V) : ([((Sum.inr "lists" : Key), a), (Sum.inr "row", b), (Sum.inr "past", c), (Sum.inr "deeds", d)]).length < sizeLine := small1000 (by show 4 ≤ 1000; decide)
theorem swapOf_bel {n : Nat} {x : Box} {z : Int} (h : bel ((n : Int) - 1) (.int z) = true) : (swapOf n x (.int z)).isSome = may x.R x.A z.toNat := by
  show (if bel ((n : Int) - 1) (.int z) = true ∧ may x.R x.A z.toNat = true then some z.toNat else none).isSome = _
  rw [h]
  cases may x.R x.A z.toNat <;> simp
theorem swapOf_eq {n p : Nat} {x : Box} {v : V} (h : swapOf n x v = some p) : v = .int (p : Nat) ∧ p + 1 < n ∧ may x.R x.A p = true := by
  cases v with
  | int z =>
    replace h : (if bel ((n : Int) - 1) (.int z) = true ∧ may x.R x.A z.toNat = true then some z.toNat else none) = some p := h
    by_cases hc : bel ((n : Int) - 1) (.int z) = true ∧ may x.R x.A z.toNat = true
    · rw [if_pos hc] at h
      obtain rfl := Option.some.inj h
      obtain ⟨y, e, h0, h1⟩ := bel_int hc.1
      obtain rfl := V.int.inj e
      refine ⟨congrArg V.int (by omega), by omega, hc.2⟩
    · rw [if_neg hc] at h; cases h
  | _ => cases h
theorem personOf_eq {n p : Nat} {v : V} (h : personOf n v = some p) : v = .int (p : Nat) ∧ p < n ∧ bel n v = true := by
  cases v with
  | int z =>
    replace h : (if bel n (.int z) = true then some z.toNat else none) = some p := h
    by_cases hc : bel n (.int z) = true
    · rw [if_pos hc] at h
      obtain rfl := Option.some.inj h
      obtain ⟨y, e, h0, h1⟩ := bel_int hc
      obtain rfl := V.int.inj e
      refine ⟨congrArg V.int (by omega), by omega, hc⟩
    · rw [if_neg hc] at h; cases h
  | _ => cases h
theorem cut_last {xs : List V} : cutV xs none (some (-1)) = xs.dropLast := by
  unfold cutV
  have e : HT.sIx xs.length xs.length (some (-1)) = xs.length - 1 := by
    show (if (-1 : Int) < 0 then ((-1 : Int) + (xs.length : Int)).toNat else min (-1 : Int).toNat xs.length) = _
    rw [if_pos (by decide)]
    omega
  rw [HT.sIx_none, e, List.drop_zero, Nat.sub_zero, List.dropLast_eq_take]
theorem atI_end {xs : List V} {v : V} (h : xs[xs.length - 1]? = some v) : atI xs (-1) = some v := by
  rw [← List.getLast?_eq_getElem?] at h
  obtain ⟨ys, rfl⟩ := List.getLast?_eq_some_iff.mp h
  exact atI_last _ _
section
variable {P : Program} {w : World} {K : PySem.W.Frag} {mg : Str → Option Value} {base : Heap} {A : Ad}
theorem sc_error : FnScope ["_law_kept", "_law_deed", "_law_lists_here", "_law_row", "_law_many", "_law_is_good"] ["_law_kept", "_law_deed"] (defScope s_L_error) := ⟨rfl, rfl, rfl, by decide +kernel, rfl, by decide +kernel, by decide +kernel⟩
theorem ok_error (T : Tx K mg A) (D : DefAt K mg "_law_error" s_L_error) (D1 : Df P w K mg base CX0 1 "_law_is_below" ["_law_thing", "_law_top"] spBelow) (D2 : Df P w K mg base CX0 2 "_law_may" ["_law_lists_here", "_law_row", "_law_at"] spMay)
    (D3 : Df P w K mg base CX0 1 "_law_is_ranked" ["_law_thing", "_law_many"] spIsRanked) : Df P w K mg base CX0 3 "_law_error" ["_law_kept", "_law_deed"] spError := by
  refine Df.of0 D (fun _ _ _ _ _ _ us hl => match us, hl with | [_, _], _ => rfl) sc_error (fun vs H Q E h => ?_) (fun f cdv A' outer s H vs Q E hr h => ?_)
  · obtain ⟨k, t, av, N, n, m, x0, x, qq, rfl, _⟩ := h
    rfl
  · obtain ⟨k, t, av, N, n, m, x0, x, qq, rfl, hk, g, hq, q1, q2⟩ := h
    have nd := sc_error.nd
    have hu := hu_of hr
    obtain ⟨r, a, pp, dd, ek, hT, hI, npa, nda, ⟨ss, es, ps⟩, ⟨cs, ec, pc⟩⟩ := hk.ob
    have el : (x.A.map V.int).length = n := by rw [List.length_map]; exact g.lA
    have n8 := g.n8
    refine ⟨_, (pss_cons (ps_par3 (i := 2) (j := 3) (l := 4) (by rfl) nd rfl rfl rfl (by decide) (by decide) (by decide) rfl rfl rfl (pa_cons (pe_dget hu (pv 0) pe_str (fun _ _ => rfl)) (pa_cons (pe_dget hu (pv 0) pe_str (fun _ _ => rfl)) (pa_cons (pe_len T.len (pe_dget hu (pv 0) pe_str (fun _ _ => rfl))) pa_nil))) (by rfl)) (pss_cons (ps_if (pt_cmpR op_eq (pe_ix ix_tup (pv 1) pe_int (fun _ _ => rfl)) pe_str (nomark _)) (pss_one (ps_ret (pe_ifExp (pt_cmpR (op_eqD hr.units) (pe_dget hu (pv 0) pe_str (fun _ _ => rfl)) (pe_lst pa_nil) (nomark _)) (pe_tup (pa_cons pe_str pa_nil)) pe_non))) pss_nil) (pss_cons (ps_if (pt_cmpR op_eq (pe_ix ix_tup (pv 1) pe_int (fun _ _ => rfl)) pe_str (nomark _)) (pss_cons (ps_set (i := 5) nd rfl (.inl rfl) (pe_cut (pe_and (pe_df D1 (hr.mono (by decide)) pass0 (pa_cons (pe_ix ix_tup (pv 1) pe_int (fun _ _ => rfl)) (pa_cons (pe_op op_sub (pv 4) pe_int) pa_nil))) (pe_one (pe_df D2 hr pass0 (pa_cons (pv 2) (pa_cons (pv 3) (pa_cons (pe_ix ix_tup (pv 1) pe_int (fun _ _ => rfl)) pa_nil)))))))) (pss_one (ps_ret (pe_ifExp (pt_val (pv 5)) pe_non (pe_tup (pa_cons pe_str (pa_cons (pe_ix ix_tup (pv 1) pe_int (fun _ _ => rfl)) pa_nil))))))) pss_nil) (pss_cons (ps_if (pt_not (pt_val (pe_df D1 (hr.mono (by decide)) pass0 (pa_cons (pe_ix ix_tup (pv 1) pe_int (fun _ _ => rfl)) (pa_cons (pv 4) pa_nil))))) (pss_one (ps_ret (pe_tup (pa_cons pe_str (pa_cons (pe_ix ix_tup (pv 1) pe_int (fun _ _ => rfl)) pa_nil))))) pss_nil) (pss_one (ps_ret (pe_ifExp (pt_val (pe_df D3 (hr.mono (by decide)) pass0 (pa_cons (pe_ix ix_tup (pv 1) pe_int (fun _ _ => rfl)) (pa_cons (pv 4) pa_nil)))) pe_non (pe_tup (pa_cons pe_str (pa_cons (pe_ix ix_tup (pv 1) pe_int (fun _ _ => rfl)) pa_nil)))))))))), ?_⟩
    refine ⟨_, rfl, k, _, rfl, dgetK (k := Sum.inr "lists") ek (kg_lists _ _ _ _), _, rfl, k, _, rfl, dgetK (k := Sum.inr "row") ek (kg_row _ _ _ _), _, rfl, k, _, rfl, dgetK (k := Sum.inr "row") ek (kg_row _ _ _ _), a, _, rfl, .inr hI, _, _, _, rfl, ?_⟩
    rw [el]
    cases qq with
    | undo =>
      have ht : H t = some (.tup [.str "undo"]) := hq
      refine ⟨_, rfl, t, _, _, _, rfl, rfl, SqT.of ht, at_of (j := 0) rfl rfl, rfl, _, rfl, iteP (decide_eq_true rfl) ?_⟩
      refine ⟨_, rfl, k, _, rfl, dgetK (k := Sum.inr "deeds") ek (kg_deeds _ _ _ _), by show 0 ≤ sizeLine; decide, fun l hl => ?_⟩
      have f1 : Frm [] H (upd H l (.lst [])) := frm_new hl
      refine ⟨dDs x.deeds, .list [], dp_deeds (f1.lst ec (fun z => nomatch z)) (pdD pc f1), .lst (SqL.of upd_same) .nil, (sh_dDs _).shaped (by decide), sh_nil.shaped (by decide), _, rfl, ?_⟩
      rw [list_nil_eqv]
      by_cases hd : x.deeds = []
      · exact iteP (decide_eq_true hd) ⟨by show 1 ≤ sizeLine; decide, fun p hp => q1 .nothing (if_pos hd) p _ (f1.new hp) (f1.tk _ hp) upd_same⟩
      · exact iteN (by rw [decide_eq_false hd]; simp) (q2 _ (if_neg hd) _ f1)
    | swap v =>
      obtain ⟨ht, d, hv⟩ := hq
      obtain ⟨kb, kd⟩ := hv.kind
      refine ⟨_, rfl, t, _, _, _, rfl, rfl, SqT.of ht, at_of (j := 0) rfl rfl, rfl, _, rfl, iteN (by decide +kernel) ?_⟩
      refine ⟨_, rfl, t, _, _, _, rfl, rfl, SqT.of ht, at_of (j := 0) rfl rfl, rfl, _, rfl, iteP (decide_eq_true rfl) ?_⟩
      refine ⟨fun u H' => u = .bl (swapOf n x v).isSome ∧ H' = H, ?_, ?_⟩
      · refine ⟨_, rfl, t, _, _, _, rfl, rfl, SqT.of ht, at_of (j := 1) rfl rfl, _, rfl, _, _, rfl, rfl, v, _, kb, rfl, kd, _, rfl, iteB (fun hb => ?_) (fun hb => ?_)⟩
        · obtain ⟨z, rfl, h0, h1⟩ := bel_int hb
          have hz : (V.int z) = V.int ((z.toNat : Nat) : Int) := by congr 1; omega
          refine ⟨_, rfl, _, rfl, _, rfl, t, _, _, _, rfl, rfl, SqT.of ht, at_of (j := 1) rfl rfl, r, a, n, z.toNat, x.ra, by rw [← hz]; rfl, hT, hI, g.val, by omega, ?_, rfl⟩
          rw [swapOf_bel hb]; rfl
        · exact ⟨by rw [swapOf_no hb]; rfl, rfl⟩
      · rintro u H' ⟨rfl, rfl⟩
        refine ⟨_, rfl, _, rfl, ?_⟩
        cases hs : swapOf n x v with
        | some p => exact iteT (q2 _ (by show (match swapOf n x v with | some p => _ | none => _) = _; rw [hs]) _ (.refl _))
        | none => exact iteF ⟨_, rfl, t, _, _, _, rfl, rfl, SqT.of ht, at_of (j := 1) rfl rfl, by show 2 ≤ sizeLine; decide, fun p hp => q1 (.swap v) (by show (match swapOf n x v with | some p => _ | none => _) = _; rw [hs]) p _ (frm_new hp) hp upd_same⟩
    | rerank v w oo =>
      obtain ⟨ht, ⟨d, hv⟩, rk, rn⟩ := hq
      obtain ⟨kb, kd⟩ := hv.kind
      refine ⟨_, rfl, t, _, _, _, rfl, rfl, SqT.of ht, at_of (j := 0) rfl rfl, rfl, _, rfl, iteN (by decide +kernel) ?_⟩
      refine ⟨_, rfl, t, _, _, _, rfl, rfl, SqT.of ht, at_of (j := 0) rfl rfl, rfl, _, rfl, iteN (by decide +kernel) ?_⟩
      refine ⟨_, rfl, t, _, _, _, rfl, rfl, SqT.of ht, at_of (j := 1) rfl rfl, _, rfl, v, n, kb, rfl, kd, _, rfl, ?_⟩
      cases hbe : bel n v with
      | false =>
        refine iteT ⟨_, rfl, t, _, _, _, rfl, rfl, SqT.of ht, at_of (j := 1) rfl rfl, by show 2 ≤ sizeLine; decide, fun p hp => q1 (.person v) ?_ p _ (frm_new hp) hp upd_same⟩
        show (match personOf n v with | none => _ | some p => _) = _
        rw [personOf_no hbe]
      | true =>
        obtain ⟨z, rfl, h0, h1⟩ := bel_int hbe
        refine iteF ⟨_, rfl, t, _, _, _, rfl, rfl, SqT.of ht, at_of (j := 2) rfl rfl, _, rfl, w, n, oo, rfl, by omega, rk, fun H1 f1 => ⟨_, rfl, ?_⟩⟩
        cases oo with
        | some ns =>
          refine iteT (q2 (x.then (.rerank z.toNat ns) (x.R.set z.toNat ns, x.A)) ?_ _ f1)
          show (match personOf n (.int z) with | none => _ | some p => _) = _
          rw [personOf_yes hbe]
        | none =>
          refine iteF ⟨_, rfl, t, _, _, _, rfl, rfl, SqT.of (f1.tp _ _ ht), at_of (j := 1) rfl rfl, by show 2 ≤ sizeLine; decide, fun p hp => q1 (.rankings (.int z)) ?_ p _ (f1.new hp) (f1.tk _ hp) upd_same⟩
          show (match personOf n (.int z) with | none => _ | some p => _) = _
          rw [personOf_yes hbe]
end
end Sw
set_option maxHeartbeats 4000000
/-! Swaprow: changes of the record -/
namespace Sw
open PySem L2
theorem step_swap {n : Nat} {x y : Box} {v : V} (h : stepB n x (.swap v) = .inr y) : ∃ p, swapOf n x v = some p ∧ y = x.then (.swap p) (x.R, swp x.A p) := by
  unfold stepB at h
  cases hs : swapOf n x v with
  | none => simp only [hs] at h; cases h
  | some p => simp only [hs] at h; exact ⟨p, rfl, (Sum.inr.inj h).symm⟩
theorem step_rerank {n : Nat} {x y : Box} {v w : V} {o : Option (List Int)} (h : stepB n x (.rerank v w o) = .inr y) : ∃ p ns, personOf n v = some p ∧ o = some ns ∧ y = x.then (.rerank p ns) (x.R.set p ns, x.A) := by
  unfold stepB at h
  cases hs : personOf n v with
  | none => simp only [hs] at h; cases h
  | some p =>
    simp only [hs] at h
    cases o with
    | none => cases h
    | some ns => exact ⟨p, ns, rfl, rfl, (Sum.inr.inj h).symm⟩
theorem rk_some {H : Hp} {n : Nat} {w : V} {ns : List Int} (rk : RkArg H n w (some ns)) : ∃ wa, w = .ref wa ∧ TF H wa ns := by
  generalize ho : (some ns : Option (List Int)) = oo at rk
  cases rk with
  | @int a ms h l =>
    by_cases hr : isRk ms n = true
    · rw [if_pos hr] at ho
      cases ho
      exact ⟨a, rfl, h⟩
    · rw [if_neg hr] at ho
      cases ho
  | _ => cases ho
section
variable {P : Program} {w : World} {K : PySem.W.Frag} {mg : Str → Option Value} {base : Heap} {A : Ad}
theorem sc_changed : FnScope ["_law_kept", "_law_deed", "_law_error_here", "_law_lists_here"] ["_law_kept", "_law_deed"] (defScope s_L_changed) := ⟨rfl, rfl, rfl, by decide +kernel, rfl, by decide +kernel, by decide +kernel⟩
theorem ok_changed (T : Tx K mg A) (D : DefAt K mg "_law_changed" s_L_changed) (D1 : Df P w K mg base CX0 3 "_law_error" ["_law_kept", "_law_deed"] spError) (D2 : Df P w K mg base CX0 1 "_law_after" ["_law_row", "_law_at"] spSwapped) : Df P w K mg base CX0 4 "_law_changed" ["_law_kept", "_law_deed"] spChanged := by
  refine Df.of0 D (fun _ _ _ _ _ _ us hl => match us, hl with | [_, _], _ => rfl) sc_changed (fun vs H Q E h => ?_) (fun f cdv A' outer s H vs Q E hr h => ?_)
  · obtain ⟨k, t, av, N, n, m, x0, x, qq, rfl, _⟩ := h
    rfl
  · obtain ⟨k, t, av, N, n, m, x0, x, qq, rfl, hk, g, hm, hav, hq, q1, q2⟩ := h
    have nd := sc_changed.nd
    have hu := hu_of hr
    refine ⟨_, (pss_cons (ps_set (i := 2) nd rfl (.inl rfl) (pe_df D1 hr pass0 (pa_cons (pv 0) (pa_cons (pv 1) pa_nil)))) (pss_cons (ps_if (pt_cmp (pc_notN (pv 2))) (pss_one (ps_ret (pv 2))) pss_nil) (pss_cons (ps_if (pt_cmpR op_eq (pe_ix ix_tup (pv 1) pe_int (fun _ _ => rfl)) pe_str (nomark _)) (pss_cons (ps_asg (pe_ix ix_list (pe_dget hu (pv 0) pe_str (fun _ _ => rfl)) (pe_un un_neg pe_int) (fun _ _ => rfl)) (pg_tup rfl (pgs_cons (pg_sub (pv 0) pe_str (set_dict hu)) (pgs_cons (pg_sub (pv 0) pe_str (set_dict hu)) pgs_nil)))) (pss_cons (ps_asg (pe_tup (pa_cons (pe_slice sl_list (pe_dget hu (pv 0) pe_str (fun _ _ => rfl)) po_none (po_some (pe_un un_neg pe_int))) (pa_cons (pe_slice sl_list (pe_dget hu (pv 0) pe_str (fun _ _ => rfl)) po_none (po_some (pe_un un_neg pe_int))) pa_nil))) (pg_tup rfl (pgs_cons (pg_sub (pv 0) pe_str (set_dict hu)) (pgs_cons (pg_sub (pv 0) pe_str (set_dict hu)) pgs_nil)))) (pss_one (ps_ret (pe_lst (pa_cons pe_non pa_nil)))))) pss_nil) (pss_cons (ps_dput hu (pv 0) pe_str (pe_op op_cat (pe_dget hu (pv 0) pe_str (fun _ _ => rfl)) (pe_lst (pa_cons (pe_tup (pa_cons (pe_dget hu (pv 0) pe_str (fun _ _ => rfl)) (pa_cons (pe_dget hu (pv 0) pe_str (fun _ _ => rfl)) pa_nil))) pa_nil))) rfl) (pss_cons (ps_dput hu (pv 0) pe_str (pe_op op_cat (pe_dget hu (pv 0) pe_str (fun _ _ => rfl)) (pe_lst (pa_cons (pv 1) pa_nil))) rfl) (pss_cons (ps_cut (ps_if (pt_cmpR op_eq (pe_ix ix_tup (pv 1) pe_int (fun _ _ => rfl)) pe_str (nomark _)) (pss_one (ps_dput hu (pv 0) pe_str (pe_df D2 (hr.mono (by decide)) pass0 (pa_cons (pe_dget hu (pv 0) pe_str (fun _ _ => rfl)) (pa_cons (pe_ix ix_tup (pv 1) pe_int (fun _ _ => rfl)) pa_nil))) rfl)) (pss_cons (ps_set (i := 3) nd rfl (.inl rfl) (pe_dget hu (pv 0) pe_str (fun _ _ => rfl))) (pss_one (ps_dput hu (pv 0) pe_str (pe_op op_catE (pe_op op_catE (pe_slice sl_tupE (pv 3) po_none (po_some (pe_ix ix_tup (pv 1) pe_int (fun _ _ => rfl)))) (pe_tup (pa_cons (pe_ix ix_tup (pv 1) pe_int (fun _ _ => rfl)) pa_nil))) (pe_slice sl_tupE (pv 3) (po_some (pe_op op_add (pe_ix ix_tup (pv 1) pe_int (fun _ _ => rfl)) pe_int)) po_none)) rfl))))) (pss_one (ps_ret (pe_lst (pa_cons pe_non pa_nil)))))))))), ?_⟩
    refine ⟨_, rfl, _, rfl, k, t, av, N, n, m, x0, x, qq, rfl, hk, g, hq, fun e he p H1 f1 hp gp => ?_, fun y hy H1 f1 => ?_⟩
    · exact ⟨_, rfl, _, rfl, iteP (by simp) ⟨_, rfl, q1 e he p H1 f1 hp gp⟩⟩
    refine ⟨_, rfl, _, rfl, iteN (by simp) ?_⟩
    have hk1 := hk.frm0 f1
    have hq1 := hq.frm f1 fun _ _ z => nomatch z
    have n8 := g.n8
    have few := g.few
    have gl := g.len
    obtain ⟨r, a, pp, dd, ek, hT, hI, npa, nda, ⟨ss, es, ps⟩, ⟨cs, ec, pc⟩⟩ := hk1.ob
    have npk : pp ≠ k := ne_of es ek fun z => nomatch z
    have ndk : dd ≠ k := ne_of ec ek fun z => nomatch z
    have lss : ss.length ≤ m := by rw [pd_len ps, ← gl]; exact few
    have lcs : cs.length ≤ m := by rw [pd_len pc]; exact few
    have hcase : qq = .undo ∨ ∃ y0 ys, H1 t = some (.tup (.str y0 :: ys)) ∧ ¬ decide (V.str y0 = V.str "undo") = true := by
      cases qq with
      | undo => exact .inl rfl
      | swap v => exact .inr ⟨_, _, hq1.1, by decide +kernel⟩
      | rerank v w oo => exact .inr ⟨_, _, hq1.1, by decide +kernel⟩
    rcases hcase with rfl | ⟨y0, ys, ht, hne⟩
    · have ht : H1 t = some (.tup [.str "undo"]) := hq1
      have hd : x.deeds ≠ [] := fun e => by
        have : (Sum.inl .nothing : Sum Err Box) = .inr y := by rw [← hy]; exact (if_pos e).symm
        cases this
      obtain rfl : x.back = y := by
        have : (Sum.inr x.back : Sum Err Box) = .inr y := by rw [← hy]; exact (if_neg hd).symm
        exact Sum.inr.inj this
      have hp : x.past ≠ [] := fun e => hd (List.eq_nil_of_length_eq_zero (by rw [gl, e]; rfl))
      have elast : x.past.getLast? = some (x.past.getLastD x.ra) := by rw [List.getLastD_eq_getLast?, List.getLast?_eq_some_getLast hp]; rfl
      obtain ⟨sv, hsv, t2, r2, a2, rfl, ht2, hT2, hI2⟩ := pd_last ps elast
      refine ⟨_, rfl, t, _, _, _, rfl, rfl, SqT.of ht, at_of (j := 0) rfl rfl, rfl, _, rfl, iteP (decide_eq_true rfl) ?_⟩
      refine ⟨_, rfl, k, _, rfl, dgetK (k := Sum.inr "past") ek (kg_past _ _ _ _), 1, rfl, pp, _, _, _, rfl, rfl, SqL.of es, atI_end hsv, ?_⟩
      refine ⟨t2, _, rfl, SqT.of ht2, rfl, _, _, rfl, _, rfl, k, _, rfl, DPut.k (k := Sum.inr "lists") ek (kg_len _ _ _ _), ?_⟩
      rw [kp_lists]
      refine ⟨_, _, rfl, _, rfl, k, _, rfl, DPut.k (k := Sum.inr "row") upd_same (kg_len _ _ _ _), rfl, ?_⟩
      rw [kp_row]
      have f2 : Frm [k] H (upd H1 k (.dK [((Sum.inr "lists" : Key), V.ref r2), (Sum.inr "row", V.ref a), (Sum.inr "past", V.ref pp), (Sum.inr "deeds", V.ref dd)])) := f1.mono0.put (.inr (by simp)) (pl_dk ek)
      have ek2 : (upd H1 k (.dK [((Sum.inr "lists" : Key), V.ref r2), (Sum.inr "row", V.ref a), (Sum.inr "past", V.ref pp), (Sum.inr "deeds", V.ref dd)])) k = some (.dK [((Sum.inr "lists" : Key), V.ref r2), (Sum.inr "row", V.ref a), (Sum.inr "past", V.ref pp), (Sum.inr "deeds", V.ref dd)]) := upd_same
      have es2 : (upd H1 k (.dK [((Sum.inr "lists" : Key), V.ref r2), (Sum.inr "row", V.ref a), (Sum.inr "past", V.ref pp), (Sum.inr "deeds", V.ref dd)])) pp = some (.lst ss) := by rw [upd_ne npk]; exact es
      have ec2 : (upd H1 k (.dK [((Sum.inr "lists" : Key), V.ref r2), (Sum.inr "row", V.ref a), (Sum.inr "past", V.ref pp), (Sum.inr "deeds", V.ref dd)])) dd = some (.lst cs) := by rw [upd_ne ndk]; exact ec
      have h12 : Frm [k] H1 (upd H1 k (.dK [((Sum.inr "lists" : Key), V.ref r2), (Sum.inr "row", V.ref a), (Sum.inr "past", V.ref pp), (Sum.inr "deeds", V.ref dd)])) := (FrmT.refl H1).put (.inr (by simp)) (pl_dk ek)
      generalize upd H1 k (.dK [((Sum.inr "lists" : Key), V.ref r2), (Sum.inr "row", V.ref a), (Sum.inr "past", V.ref pp), (Sum.inr "deeds", V.ref dd)]) = H2 at f2 ek2 es2 ec2 h12
      have f3 : Frm [k] H (upd H2 k (.dK [((Sum.inr "lists" : Key), V.ref r2), (Sum.inr "row", V.ref a2), (Sum.inr "past", V.ref pp), (Sum.inr "deeds", V.ref dd)])) := f2.put (.inr (by simp)) (pl_dk ek2)
      have ek3 : (upd H2 k (.dK [((Sum.inr "lists" : Key), V.ref r2), (Sum.inr "row", V.ref a2), (Sum.inr "past", V.ref pp), (Sum.inr "deeds", V.ref dd)])) k = some (.dK [((Sum.inr "lists" : Key), V.ref r2), (Sum.inr "row", V.ref a2), (Sum.inr "past", V.ref pp), (Sum.inr "deeds", V.ref dd)]) := upd_same
      have es3 : (upd H2 k (.dK [((Sum.inr "lists" : Key), V.ref r2), (Sum.inr "row", V.ref a2), (Sum.inr "past", V.ref pp), (Sum.inr "deeds", V.ref dd)])) pp = some (.lst ss) := by rw [upd_ne npk]; exact es2
      have ec3 : (upd H2 k (.dK [((Sum.inr "lists" : Key), V.ref r2), (Sum.inr "row", V.ref a2), (Sum.inr "past", V.ref pp), (Sum.inr "deeds", V.ref dd)])) dd = some (.lst cs) := by rw [upd_ne ndk]; exact ec2
      have h13 : Frm [k] H1 (upd H2 k (.dK [((Sum.inr "lists" : Key), V.ref r2), (Sum.inr "row", V.ref a2), (Sum.inr "past", V.ref pp), (Sum.inr "deeds", V.ref dd)])) := h12.put (.inr (by simp)) (pl_dk ek2)
      generalize upd H2 k (.dK [((Sum.inr "lists" : Key), V.ref r2), (Sum.inr "row", V.ref a2), (Sum.inr "past", V.ref pp), (Sum.inr "deeds", V.ref dd)]) = H3 at f3 ek3 es3 ec3 h13
      refine ⟨_, rfl, k, _, rfl, dgetK (k := Sum.inr "past") ek3 (kg_past _ _ _ _), 1, rfl, -1, rfl, pp, _, rfl, SqL.of es3, fun l1 hl1 => ?_⟩
      have es4 : (upd H3 l1 (.lst (cutV ss none (some (-1))))) l1 = some (.lst ss.dropLast) := by rw [upd_same, cut_last]
      have g4 : Frm [] H3 (upd H3 l1 (.lst (cutV ss none (some (-1))))) := frm_new hl1
      have z1 : H l1 = none := f3.tk _ hl1
      have f4 := f3.tr0 g4
      have ek4 := g4.dk ek3 (fun z => nomatch z)
      have ec4 := g4.lst ec3 (fun z => nomatch z)
      have h14 := h13.tr0 g4
      generalize upd H3 l1 (.lst (cutV ss none (some (-1)))) = H4 at es4 f4 ek4 ec4 h14
      refine ⟨_, rfl, k, _, rfl, dgetK (k := Sum.inr "deeds") ek4 (kg_deeds _ _ _ _), 1, rfl, -1, rfl, dd, _, rfl, SqL.of ec4, fun l2 hl2 => ?_⟩
      have ec5 : (upd H4 l2 (.lst (cutV cs none (some (-1))))) l2 = some (.lst cs.dropLast) := by rw [upd_same, cut_last]
      have g5 : Frm [] H4 (upd H4 l2 (.lst (cutV cs none (some (-1))))) := frm_new hl2
      have z2 : H l2 = none := f4.tk _ hl2
      have f5 := f4.tr0 g5
      have ek5 := g5.dk ek4 (fun z => nomatch z)
      have es5 := g5.lst es4 (fun z => nomatch z)
      have h15 := h14.tr0 g5
      generalize upd H4 l2 (.lst (cutV cs none (some (-1)))) = H5 at ec5 f5 ek5 es5 h15
      refine ⟨by show 2 ≤ sizeLine; decide, fun t3 ht3 => ?_⟩
      have g6 : Frm [] H5 (upd H5 t3 (.tup [.ref l1, .ref l2])) := frm_new ht3
      have e6 : (upd H5 t3 (.tup [.ref l1, .ref l2])) t3 = some (.tup [.ref l1, .ref l2]) := upd_same
      have f6 := f5.tr0 g6
      have ek6 := g6.dk ek5 (fun z => nomatch z)
      have es6 := g6.lst es5 (fun z => nomatch z)
      have ec6 := g6.lst ec5 (fun z => nomatch z)
      have h16 := h15.tr0 g6
      generalize upd H5 t3 (.tup [.ref l1, .ref l2]) = H6 at f6 ek6 es6 ec6 h16 e6
      have n1k : l1 ≠ k := ne_of es6 ek6 fun z => nomatch z
      have n2k : l2 ≠ k := ne_of ec6 ek6 fun z => nomatch z
      refine ⟨t3, _, rfl, SqT.of e6, rfl, _, _, rfl, _, rfl, k, _, rfl, DPut.k (k := Sum.inr "past") ek6 (kg_len _ _ _ _), ?_⟩
      rw [kp_past]
      refine ⟨_, _, rfl, _, rfl, k, _, rfl, DPut.k (k := Sum.inr "deeds") upd_same (kg_len _ _ _ _), rfl, ?_⟩
      rw [kp_deeds]
      refine ⟨by show 1 ≤ sizeLine; decide, fun p hp => ?_⟩
      have f7 : Frm [k] H (upd H6 k (.dK [((Sum.inr "lists" : Key), V.ref r2), (Sum.inr "row", V.ref a2), (Sum.inr "past", V.ref l1), (Sum.inr "deeds", V.ref dd)])) := f6.put (.inr (by simp)) (pl_dk ek6)
      have h17 : Frm [k] H1 (upd H6 k (.dK [((Sum.inr "lists" : Key), V.ref r2), (Sum.inr "row", V.ref a2), (Sum.inr "past", V.ref l1), (Sum.inr "deeds", V.ref dd)])) := h16.put (.inr (by simp)) (pl_dk ek6)
      have ek7 : (upd H6 k (.dK [((Sum.inr "lists" : Key), V.ref r2), (Sum.inr "row", V.ref a2), (Sum.inr "past", V.ref l1), (Sum.inr "deeds", V.ref dd)])) k = some (.dK [((Sum.inr "lists" : Key), V.ref r2), (Sum.inr "row", V.ref a2), (Sum.inr "past", V.ref l1), (Sum.inr "deeds", V.ref dd)]) := upd_same
      have es7 : (upd H6 k (.dK [((Sum.inr "lists" : Key), V.ref r2), (Sum.inr "row", V.ref a2), (Sum.inr "past", V.ref l1), (Sum.inr "deeds", V.ref dd)])) l1 = some (.lst ss.dropLast) := by rw [upd_ne n1k]; exact es6
      have ec7 : (upd H6 k (.dK [((Sum.inr "lists" : Key), V.ref r2), (Sum.inr "row", V.ref a2), (Sum.inr "past", V.ref l1), (Sum.inr "deeds", V.ref dd)])) l2 = some (.lst cs.dropLast) := by rw [upd_ne n2k]; exact ec6
      generalize upd H6 k (.dK [((Sum.inr "lists" : Key), V.ref r2), (Sum.inr "row", V.ref a2), (Sum.inr "past", V.ref l1), (Sum.inr "deeds", V.ref dd)]) = H7 at f7 h17 ek7 es7 ec7 hp
      have f8 : Frm [k] H (upd H7 k (.dK [((Sum.inr "lists" : Key), V.ref r2), (Sum.inr "row", V.ref a2), (Sum.inr "past", V.ref l1), (Sum.inr "deeds", V.ref l2)])) := f7.put (.inr (by simp)) (pl_dk ek7)
      have h18 : Frm [k] H1 (upd H7 k (.dK [((Sum.inr "lists" : Key), V.ref r2), (Sum.inr "row", V.ref a2), (Sum.inr "past", V.ref l1), (Sum.inr "deeds", V.ref l2)])) := h17.put (.inr (by simp)) (pl_dk ek7)
      have ek8 : (upd H7 k (.dK [((Sum.inr "lists" : Key), V.ref r2), (Sum.inr "row", V.ref a2), (Sum.inr "past", V.ref l1), (Sum.inr "deeds", V.ref l2)])) k = some (.dK [((Sum.inr "lists" : Key), V.ref r2), (Sum.inr "row", V.ref a2), (Sum.inr "past", V.ref l1), (Sum.inr "deeds", V.ref l2)]) := upd_same
      have es8 : (upd H7 k (.dK [((Sum.inr "lists" : Key), V.ref r2), (Sum.inr "row", V.ref a2), (Sum.inr "past", V.ref l1), (Sum.inr "deeds", V.ref l2)])) l1 = some (.lst ss.dropLast) := by rw [upd_ne n1k]; exact es7
      have ec8 : (upd H7 k (.dK [((Sum.inr "lists" : Key), V.ref r2), (Sum.inr "row", V.ref a2), (Sum.inr "past", V.ref l1), (Sum.inr "deeds", V.ref l2)])) l2 = some (.lst cs.dropLast) := by rw [upd_ne n2k]; exact ec7
      generalize upd H7 k (.dK [((Sum.inr "lists" : Key), V.ref r2), (Sum.inr "row", V.ref a2), (Sum.inr "past", V.ref l1), (Sum.inr "deeds", V.ref l2)]) = H8 at f8 h18 ek8 es8 ec8 hp
      have K8 : KeptAt av H8 k x.back := ⟨⟨r2, a2, l1, l2, ek8, hT2.frm h18, hI2.frm h18, fun z => hav _ z z1, fun z => hav _ z z2, ⟨_, es8, pdS (pd_dropLast ps) h18⟩, ⟨_, ec8, pdD (pd_dropLast pc) h18⟩⟩, hk.nk⟩
      exact q2 _ hy p _ (f8.new hp) (K8.frm0 (frm_new (TP := fun _ => True) hp)) (f8.tk _ hp) upd_same
    · refine ⟨_, rfl, t, _, _, _, rfl, rfl, SqT.of ht, at_of (j := 0) rfl rfl, rfl, _, rfl, iteN hne ?_⟩
      refine ⟨_, rfl, k, _, rfl, dgetK (k := Sum.inr "past") ek (kg_past _ _ _ _), _, rfl, k, _, rfl, dgetK (k := Sum.inr "lists") ek (kg_lists _ _ _ _), _, rfl, k, _, rfl, dgetK (k := Sum.inr "row") ek (kg_row _ _ _ _), by show 2 ≤ sizeLine; decide, fun t1 ht1 => ⟨by show 1 ≤ sizeLine; decide, fun l1 hl1 => ?_⟩⟩
      have gA : Frm [] H1 (upd (upd H1 t1 (.tup [.ref r, .ref a])) l1 (.lst [.ref t1])) := (frm_new ht1).new hl1
      have sA : SAt (upd (upd H1 t1 (.tup [.ref r, .ref a])) l1 (.lst [.ref t1])) (.ref t1) x.ra := ⟨t1, r, a, rfl, (frm_new (TP := fun _ => True) (fs := []) hl1).tp _ _ upd_same, hT.frm gA, hI.frm gA⟩
      have eA : (upd (upd H1 t1 (.tup [.ref r, .ref a])) l1 (.lst [.ref t1])) l1 = some (.lst [.ref t1]) := upd_same
      have fA := f1.tr gA
      generalize upd (upd H1 t1 (.tup [.ref r, .ref a])) l1 (.lst [.ref t1]) = HA at gA sA eA fA
      refine ⟨pp, l1, _, _, rfl, rfl, gA.lst es (fun z => nomatch z), eA, by rw [sizeLine_eq]; simp; omega, fun l2 hl2 => ?_⟩
      have gB : Frm [] HA (upd HA l2 (.lst (ss ++ [.ref t1]))) := frm_new hl2
      have eB : (upd HA l2 (.lst (ss ++ [.ref t1]))) l2 = some (.lst (ss ++ [.ref t1])) := upd_same
      have z2 : H l2 = none := fA.tk _ hl2
      have g1B := gA.tr gB
      have fB := fA.tr gB
      have sB := sA.frm gB
      generalize upd HA l2 (.lst (ss ++ [.ref t1])) = HB at gB eB g1B fB sB
      have ekB := g1B.dk ek (fun z => nomatch z)
      have n2k : l2 ≠ k := ne_of eB ekB fun z => nomatch z
      refine ⟨_, rfl, k, _, rfl, DPut.k (k := Sum.inr "past") ekB (kg_len _ _ _ _), ?_⟩
      rw [kp_past]
      have gC : Frm [k] HB (upd HB k (.dK [((Sum.inr "lists" : Key), V.ref r), (Sum.inr "row", V.ref a), (Sum.inr "past", V.ref l2), (Sum.inr "deeds", V.ref dd)])) := (FrmT.refl HB).put (.inr (by simp)) (pl_dk ekB)
      have ekC : (upd HB k (.dK [((Sum.inr "lists" : Key), V.ref r), (Sum.inr "row", V.ref a), (Sum.inr "past", V.ref l2), (Sum.inr "deeds", V.ref dd)])) k = some (.dK [((Sum.inr "lists" : Key), V.ref r), (Sum.inr "row", V.ref a), (Sum.inr "past", V.ref l2), (Sum.inr "deeds", V.ref dd)]) := upd_same
      generalize upd HB k (.dK [((Sum.inr "lists" : Key), V.ref r), (Sum.inr "row", V.ref a), (Sum.inr "past", V.ref l2), (Sum.inr "deeds", V.ref dd)]) = HC at gC ekC
      have fC : Frm [k] H HC := fB.mono0.tr gC
      have g1C : Frm [k] H1 HC := g1B.mono0.tr gC
      refine ⟨_, rfl, k, _, rfl, dgetK (k := Sum.inr "deeds") ekC (kg_deeds _ _ _ _), _, rfl, by show 1 ≤ sizeLine; decide, fun l3 hl3 => ?_⟩
      have gD : Frm [] HC (upd HC l3 (.lst [.ref t])) := frm_new hl3
      have eD : (upd HC l3 (.lst [.ref t])) l3 = some (.lst [.ref t]) := upd_same
      generalize upd HC l3 (.lst [.ref t]) = HD at gD eD
      have ecC := g1C.lst ec (by simpa using ndk)
      refine ⟨dd, l3, _, _, rfl, rfl, gD.lst ecC (fun z => nomatch z), eD, by rw [sizeLine_eq]; simp; omega, fun l4 hl4 => ?_⟩
      have gE : Frm [] HD (upd HD l4 (.lst (cs ++ [.ref t]))) := frm_new hl4
      have eE : (upd HD l4 (.lst (cs ++ [.ref t]))) l4 = some (.lst (cs ++ [.ref t])) := upd_same
      have z4 : H l4 = none := (fC.tr0 gD).tk _ hl4
      generalize upd HD l4 (.lst (cs ++ [.ref t])) = HE at gE eE
      have gCE := gD.tr gE
      have ekE := gCE.dk ekC (fun z => nomatch z)
      have n4k : l4 ≠ k := ne_of eE ekE fun z => nomatch z
      refine ⟨_, rfl, k, _, rfl, DPut.k (k := Sum.inr "deeds") ekE (kg_len _ _ _ _), ?_⟩
      rw [kp_deeds]
      have gF : Frm [k] HE (upd HE k (.dK [((Sum.inr "lists" : Key), V.ref r), (Sum.inr "row", V.ref a), (Sum.inr "past", V.ref l2), (Sum.inr "deeds", V.ref l4)])) := (FrmT.refl HE).put (.inr (by simp)) (pl_dk ekE)
      have ekF : (upd HE k (.dK [((Sum.inr "lists" : Key), V.ref r), (Sum.inr "row", V.ref a), (Sum.inr "past", V.ref l2), (Sum.inr "deeds", V.ref l4)])) k = some (.dK [((Sum.inr "lists" : Key), V.ref r), (Sum.inr "row", V.ref a), (Sum.inr "past", V.ref l2), (Sum.inr "deeds", V.ref l4)]) := upd_same
      generalize upd HE k (.dK [((Sum.inr "lists" : Key), V.ref r), (Sum.inr "row", V.ref a), (Sum.inr "past", V.ref l2), (Sum.inr "deeds", V.ref l4)]) = HF at gF ekF
      have gCF : Frm [k] HC HF := gCE.mono0.tr gF
      have fF : Frm [k] H HF := fC.tr gCF
      have g1F : Frm [k] H1 HF := g1C.tr gCF
      have n2k' : l2 ∉ [k] := by simpa using n2k
      have n4k' : l4 ∉ [k] := by simpa using n4k
      have e2F := gCF.lst (gC.lst eB n2k') n2k'
      have e4F := gF.lst eE n4k'
      have sF : SAt HF (.ref t1) x.ra := (sB.frm gC).frm gCF
      have hTF := hT.frm g1F
      have hIF := hI.frm g1F
      have hqF := hq1.frm g1F
      have htF := g1F.tp _ _ ht
      -- the change itself
      refine ⟨fun _ H' => ∃ r' a', Frm [k] HF H' ∧ H' k = some (.dK [((Sum.inr "lists" : Key), V.ref r'), (Sum.inr "row", V.ref a'), (Sum.inr "past", V.ref l2), (Sum.inr "deeds", V.ref l4)]) ∧ TT H' r' y.R ∧ TI H' a' y.A, ?_, ?_⟩
      · cases qq with
        | undo => exact absurd hq1 (fun z => by rw [show H1 t = some (.tup [.str "undo"]) from z] at ht; injection ht with ht; injection ht with ht; injection ht with ht _; injection ht with ht; exact hne (decide_eq_true (by rw [ht])))
        | swap v =>
          obtain ⟨p, hsw, rfl⟩ := step_swap hy
          obtain ⟨rfl, hp1, _⟩ := swapOf_eq hsw
          have htv := g1F.tp _ _ hq1.1
          refine ⟨_, rfl, t, _, _, _, rfl, rfl, SqT.of htv, at_of (j := 0) rfl rfl, rfl, _, rfl, iteP (decide_eq_true rfl) ?_⟩
          refine ⟨_, rfl, k, _, rfl, dgetK (k := Sum.inr "row") ekF (kg_row _ _ _ _), _, rfl, t, _, _, _, rfl, rfl, SqT.of htv, at_of (j := 1) rfl rfl, a, x.A, p, rfl, hIF, by rw [g.lA]; omega, by rw [g.lA]; exact hp1, fun p2 H' f hTI => ?_⟩
          have ekG := f.dk ekF (fun z => nomatch z)
          refine ⟨_, rfl, k, _, rfl, DPut.k (k := Sum.inr "row") ekG (kg_len _ _ _ _), ?_⟩
          rw [kp_row]
          have gG : Frm [k] H' (upd H' k (.dK [((Sum.inr "lists" : Key), V.ref r), (Sum.inr "row", V.ref p2), (Sum.inr "past", V.ref l2), (Sum.inr "deeds", V.ref l4)])) := (FrmT.refl H').put (.inr (by simp)) (pl_dk ekG)
          exact ⟨r, p2, f.mono0.tr gG, upd_same, (hTF.frm f).frm gG, hTI.frm gG⟩
        | rerank v w oo =>
          obtain ⟨p, ns, hpo, rfl, rfl⟩ := step_rerank hy
          obtain ⟨rfl, hp1, _⟩ := personOf_eq hpo
          obtain ⟨htv0, _, rk, _⟩ := hq1
          have htv := g1F.tp _ _ htv0
          obtain ⟨wa, rfl, hns0⟩ := rk_some rk
          have hns := hns0.frm g1F
          obtain ⟨qs, e, el, _⟩ := hTF.at
          have el' : qs.length = n := el.trans g.lR
          refine ⟨_, rfl, t, _, _, _, rfl, rfl, SqT.of htv, at_of (j := 0) rfl rfl, rfl, _, rfl, iteN (by decide +kernel) ?_⟩
          refine ⟨_, rfl, k, _, rfl, dgetK (k := Sum.inr "lists") ekF (kg_lists _ _ _ _), ?_⟩
          refine ⟨_, rfl, _, rfl, t, _, _, _, rfl, rfl, SqT.of htv, at_of (j := 1) rfl rfl, _, rfl, r, qs, rfl, e, fun p4 H4 f4 g4 => ?_⟩
          rw [cut_take (by omega)] at g4
          refine ⟨_, rfl, t, _, _, _, rfl, rfl, SqT.of (f4.tp _ _ htv), at_of (j := 2) rfl rfl, by show 1 ≤ sizeLine; decide, fun p5 hp5 => ?_⟩
          have f5 := f4.new (o := .tup [.ref wa]) hp5
          have f45 : Frm [] H4 (upd H4 p5 (.tup [.ref wa])) := frm_new hp5
          refine ⟨p4, p5, _, _, rfl, rfl, f45.tp _ _ g4, upd_same, by rw [List.length_take]; simp; omega, fun p6 H6 f6 g6 => ?_⟩
          have f36 := f5.tr f6
          refine ⟨_, rfl, _, rfl, t, _, _, _, rfl, rfl, SqT.of (f36.tp _ _ htv), at_of (j := 1) rfl rfl, _, _, rfl, rfl, _, rfl, r, qs, rfl, f36.tp _ _ e, fun p7 H7 f7 g7 => ?_⟩
          have e1 : ((p : Nat) : Int) + 1 = ((p + 1 : Nat) : Int) := by omega
          rw [e1, cut_drop] at g7
          refine ⟨p6, p7, _, _, rfl, rfl, f7.tp _ _ g6, g7, by rw [List.length_append, List.length_take, List.length_drop]; simp; omega, fun p8 H8 f8 g8 => ?_⟩
          have f38 := f36.tr (f7.tr f8)
          have ekG := f38.dk ekF (fun z => nomatch z)
          refine ⟨_, rfl, k, _, rfl, DPut.k (k := Sum.inr "lists") ekG (kg_len _ _ _ _), ?_⟩
          rw [kp_lists]
          have gG : Frm [k] H8 (upd H8 k (.dK [((Sum.inr "lists" : Key), V.ref p8), (Sum.inr "row", V.ref a), (Sum.inr "past", V.ref l2), (Sum.inr "deeds", V.ref l4)])) := (FrmT.refl H8).put (.inr (by simp)) (pl_dk ekG)
          refine ⟨p8, a, f38.mono0.tr gG, upd_same, TT.frm ?_ gG, (hIF.frm f38).frm gG⟩
          obtain ⟨ps3, e3, pd3⟩ := hTF
          rw [e3] at e
          obtain rfl : ps3 = qs := by injection e with e; injection e
          refine ⟨_, g8, ?_⟩
          rw [List.append_assoc, List.singleton_append, set_cut (by omega)]
          exact pd_set ⟨wa, rfl, hns.frm f38⟩ (Paired.mapP pd3 fun v ns' h => h.frm f38)
      · rintro σ' H' ⟨r', a', fG, ekG, hTG, hIG⟩
        refine ⟨by show 1 ≤ sizeLine; decide, fun p hp => ?_⟩
        have hyd : ∃ d, y.deeds = x.deeds ++ [d] ∧ y.past = x.past ++ [x.ra] ∧ DAt H1 (.ref t) d := by
          cases qq with
          | undo => exact absurd hq1 (fun z => by rw [show H1 t = some (.tup [.str "undo"]) from z] at ht; injection ht with ht; injection ht with ht; injection ht with ht _; injection ht with ht; exact hne (decide_eq_true (by rw [ht])))
          | swap v =>
            obtain ⟨p, hs, rfl⟩ := step_swap hy
            obtain ⟨rfl, _, _⟩ := swapOf_eq hs
            exact ⟨.swap p, rfl, rfl, t, rfl, hq1.1⟩
          | rerank v w oo =>
            obtain ⟨p, ns, hs, rfl, rfl⟩ := step_rerank hy
            obtain ⟨rfl, _, _⟩ := personOf_eq hs
            obtain ⟨wa, rfl, hns⟩ := rk_some hq1.2.2.1
            exact ⟨.rerank p ns, rfl, rfl, t, wa, rfl, hq1.1, hns⟩
        obtain ⟨d, e1, e2, e3⟩ := hyd
        have fH : Frm [k] H H' := fF.tr fG
        have hH : Frm [k] H1 H' := g1F.tr fG
        have K8 : KeptAt av H' k y := ⟨⟨r', a', l2, l4, ekG, hTG, hIG, fun z => hav _ z z2, fun z => hav _ z z4, ⟨_, fG.lst e2F n2k', by rw [e2]; exact pd_app (pdS ps hH) (.cons (sF.frm fG) .nil)⟩, ⟨_, fG.lst e4F n4k', by rw [e1]; exact pd_app (pdD pc hH) (.cons (e3.frm hH) .nil)⟩⟩, hk.nk⟩
        exact q2 _ hy p _ (fH.new hp) (K8.frm0 (frm_new (TP := fun _ => True) hp)) (fH.tk _ hp) upd_same
end
end Sw
set_option maxHeartbeats 4000000
/-! Swaprow: errors told -/
namespace Sw
open PySem L2
section
variable {P : Program} {w : World} {K : PySem.W.Frag} {mg : Str → Option Value} {base : Heap} {A : Ad}
theorem sc_class : FnScope ["_law_error_here"] ["_law_error_here"] (defScope s_L_class) := ⟨rfl, rfl, rfl, by decide +kernel, rfl, by decide +kernel, by decide +kernel⟩
theorem ok_class (T : Tx K mg A) (D : DefAt K mg "_law_class" s_L_class) : Df P w K mg base CX0 1 "_law_class" ["_law_error_here"] (spClass A) := by
  refine Df.of0 D (fun _ _ _ _ _ _ us hl => match us, hl with | [_], _ => rfl) sc_class (fun vs H Q E h => ?_) (fun f cdv A' outer s H vs Q E hr h => ?_)
  · obtain ⟨a, C, d, e, rfl, _⟩ := h
    rfl
  · obtain ⟨a, C, d, e, rfl, ha, hcd, q⟩ := h
    have nd := sc_class.nd
    have hu := hu_of hr
    have hX : ExcC K C := by
      cases e with
      | nothing => rw [hcd.1]; exact T.exN.exc
      | swap v => rw [hcd.1]; exact T.exS.exc
      | person v => rw [hcd.1]; exact T.exP.exc
      | rankings v => rw [hcd.1]; exact T.exR.exc
    refine ⟨_, (pss_cons (ps_if (pt_val (pe_callB (call_isK hX) (by rfl) T.isinstance (by decide +kernel) (pa_cons (pv 0) (pa_cons (pe_glob (v := .ref A.eS) rfl T.mgS rfl) pa_nil)))) (pss_one (ps_ret (pe_tup (pa_cons pe_str (pa_cons (pe_xk (pv 0)) pa_nil))))) pss_nil) (pss_cons (ps_if (pt_val (pe_callB (call_isK hX) (by rfl) T.isinstance (by decide +kernel) (pa_cons (pv 0) (pa_cons (pe_glob (v := .ref A.eP) rfl T.mgP rfl) pa_nil)))) (pss_one (ps_ret (pe_tup (pa_cons pe_str (pa_cons (pe_xk (pv 0)) pa_nil))))) pss_nil) (pss_cons (ps_if (pt_val (pe_callB (call_isK hX) (by rfl) T.isinstance (by decide +kernel) (pa_cons (pv 0) (pa_cons (pe_glob (v := .ref A.eI) rfl T.mgI rfl) pa_nil)))) (pss_one (ps_ret (pe_tup (pa_cons pe_str (pa_cons (pe_xk (pv 0)) pa_nil))))) pss_nil) (pss_cons (ps_if (pt_val (pe_callB (call_isK hX) (by rfl) T.isinstance (by decide +kernel) (pa_cons (pv 0) (pa_cons (pe_glob (v := .ref A.eR) rfl T.mgR rfl) pa_nil)))) (pss_one (ps_ret (pe_tup (pa_cons pe_str (pa_cons (pe_xk (pv 0)) pa_nil))))) pss_nil) (pss_cons (ps_if (pt_val (pe_callB (call_isK hX) (by rfl) T.isinstance (by decide +kernel) (pa_cons (pv 0) (pa_cons (pe_glob (v := .ref A.eA) rfl T.mgA rfl) pa_nil)))) (pss_one (ps_ret (pe_tup (pa_cons pe_str (pa_cons (pe_xk (pv 0)) pa_nil))))) pss_nil) (pss_one (ps_ret (pe_ifExp (pt_val (pe_callB (call_isK hX) (by rfl) T.isinstance (by decide +kernel) (pa_cons (pv 0) (pa_cons (pe_glob (v := .ref A.eN) rfl T.mgN rfl) pa_nil)))) (pe_tup (pa_cons pe_str pa_nil)) (pe_tup (pa_cons pe_str pa_nil)))))))))), ?_⟩
    cases e with
    | nothing =>
      obtain ⟨rfl, rfl⟩ := hcd
      exact ⟨_, rfl, a, _, _, _, rfl, ha, trivial, T.kN.S, _, rfl, iteF ⟨_, rfl, a, _, _, _, rfl, ha, trivial, T.kN.P, _, rfl, iteF ⟨_, rfl, a, _, _, _, rfl, ha, trivial, T.kN.I, _, rfl, iteF ⟨_, rfl, a, _, _, _, rfl, ha, trivial, T.kN.R, _, rfl, iteF ⟨_, rfl, a, _, _, _, rfl, ha, trivial, T.kN.Ar, _, rfl, iteF ⟨_, rfl, a, _, _, _, rfl, ha, trivial, T.kN.N, _, rfl, iteT ⟨by show 1 ≤ sizeLine; decide, fun p hp => q p hp⟩⟩⟩⟩⟩⟩⟩
    | swap v =>
      obtain ⟨rfl, dd, rfl, hx⟩ := hcd
      exact ⟨_, rfl, a, _, _, _, rfl, ha, ⟨_, hx⟩, T.kS.S, _, rfl, iteT ⟨_, rfl, a, _, _, _, _, rfl, ha, hx, T.exS.xf, T.exS.no, rfl, by show 2 ≤ sizeLine; decide, fun p hp => q p hp⟩⟩
    | person v =>
      obtain ⟨rfl, dd, rfl, hx⟩ := hcd
      exact ⟨_, rfl, a, _, _, _, rfl, ha, ⟨_, hx⟩, T.kP.S, _, rfl, iteF ⟨_, rfl, a, _, _, _, rfl, ha, ⟨_, hx⟩, T.kP.P, _, rfl, iteT ⟨_, rfl, a, _, _, _, _, rfl, ha, hx, T.exP.xf, T.exP.no, rfl, by show 2 ≤ sizeLine; decide, fun p hp => q p hp⟩⟩⟩
    | rankings v =>
      obtain ⟨rfl, dd, rfl, hx⟩ := hcd
      exact ⟨_, rfl, a, _, _, _, rfl, ha, ⟨_, hx⟩, T.kR.S, _, rfl, iteF ⟨_, rfl, a, _, _, _, rfl, ha, ⟨_, hx⟩, T.kR.P, _, rfl, iteF ⟨_, rfl, a, _, _, _, rfl, ha, ⟨_, hx⟩, T.kR.I, _, rfl, iteF ⟨_, rfl, a, _, _, _, rfl, ha, ⟨_, hx⟩, T.kR.R, _, rfl, iteT ⟨_, rfl, a, _, _, _, _, rfl, ha, hx, T.exR.xf, T.exR.no, rfl, by show 2 ≤ sizeLine; decide, fun p hp => q p hp⟩⟩⟩⟩⟩
theorem sc_do : FnScope ["_law_box", "_law_deed"] ["_law_box", "_law_deed"] (defScope s_L_do) := ⟨rfl, rfl, rfl, by decide +kernel, rfl, by decide +kernel, by decide +kernel⟩
theorem ok_do (T : Tx K mg A) (D : DefAt K mg "_law_do" s_L_do) (D1 : Dm P w K mg base (L2.CX P w) 8 A.C "swap" ["self", "place"] (spRowSwap A)) (D2 : Dm P w K mg base (L2.CX P w) 4 A.C "rerank" ["self", "person", "ranking"] (spRowRerank A)) (D3 : Dm P w K mg base (L2.CX P w) 3 A.C "undo" ["self"] (spRowUndo A)) : Df P w K mg base (L2.CX P w) 9 "_law_do" ["_law_box", "_law_deed"] (spDo A) := by
  refine Df.of D (fun _ _ _ _ _ _ us hl => match us, hl with | [_, _], _ => rfl) sc_do (fun vs H Q E h => ?_) (fun f cdv A' outer s H vs Q E hr h => ?_)
  · obtain ⟨b, c, s, t, N, n, m, x0, x, qq, rfl, _⟩ := h
    rfl
  · obtain ⟨b, c, s, t, N, n, m, x0, x, qq, rfl, bx, g, hm, hq, q1, q2⟩ := h
    have nd := sc_do.nd
    have hu := hu_of hr
    obtain ⟨dx, r, a, hb, hT, hI⟩ := bx.ob
    have nm : ∀ y : Str, ¬ y = "own_rankings" → ¬ y = "own_arrangement" → ¬ y = "changes" → ¬ y = "states" → (flds r a c s).lookup y = none := fun y => lkN r a c s
    have nmS : (flds r a c s).lookup ("swap" : Str) = none := lkN _ _ _ _ (by decide +kernel) (by decide +kernel) (by decide +kernel) (by decide +kernel)
    have nmR : (flds r a c s).lookup ("rerank" : Str) = none := lkN _ _ _ _ (by decide +kernel) (by decide +kernel) (by decide +kernel) (by decide +kernel)
    have nmU : (flds r a c s).lookup ("undo" : Str) = none := lkN _ _ _ _ (by decide +kernel) (by decide +kernel) (by decide +kernel) (by decide +kernel)
    refine ⟨_, (pss_cons (ps_if (pt_cmpR op_eq (pe_ix ix_tup (pv 1) pe_int (fun _ _ => rfl)) pe_str (nomark _)) (pss_one (ps_ret (pe_dm (pv 0) T.cl D1 hr (passes_call (takes_of rfl rfl rfl rfl) (fun _ _ _ _ h => h)) (pa_cons (pe_ix ix_tup (pv 1) pe_int (fun _ _ => rfl)) pa_nil)))) pss_nil) (pss_one (ps_ret (pe_ifExp (pt_cmpR op_eq (pe_ix ix_tup (pv 1) pe_int (fun _ _ => rfl)) pe_str (nomark _)) (pe_dm (pv 0) T.cl D2 (hr.mono (by decide)) (passes_call (takes_of rfl rfl rfl rfl) (fun _ _ _ _ h => h)) (pa_cons (pe_ix ix_tup (pv 1) pe_int (fun _ _ => rfl)) (pa_cons (pe_ix ix_tup (pv 1) pe_int (fun _ _ => rfl)) pa_nil))) (pe_dm0 (pv 0) T.cl D3 (hr.mono (by decide)) (passes_call (takes_of rfl rfl rfl rfl) (fun _ _ _ _ h => h))))))), ?_⟩
    cases qq with
    | undo =>
      have ht : H t = some (.tup [.str "undo"]) := hq
      refine ⟨_, rfl, t, _, _, _, rfl, rfl, SqT.of ht, at_of (j := 0) rfl rfl, rfl, _, rfl, iteN (by decide +kernel) ⟨_, rfl, t, _, _, _, rfl, rfl, SqT.of ht, at_of (j := 0) rfl rfl, rfl, _, rfl, iteN (by decide +kernel) ?_⟩⟩
      refine ⟨_, rfl, b, dx, _, rfl, hb, nmU, b, c, s, n, m, x0, x, rfl, bx, g, fun hd H' f => q1 .nothing (if_pos hd) _ _ _ f ⟨rfl, rfl⟩, fun hd H' f bx' => q2 _ (if_neg hd) _ f bx'⟩
    | swap v =>
      obtain ⟨ht, d, hv⟩ := hq
      obtain ⟨kb, kd⟩ := hv.kind
      refine ⟨_, rfl, t, _, _, _, rfl, rfl, SqT.of ht, at_of (j := 0) rfl rfl, rfl, _, rfl, iteP (decide_eq_true rfl) ?_⟩
      refine ⟨_, rfl, b, dx, _, rfl, hb, nmS, _, rfl, t, _, _, _, rfl, rfl, SqT.of ht, at_of (j := 1) rfl rfl, b, c, s, n, m, x0, x, v, kb, rfl, bx, g, hm, kd, fun p hp H' f bx' => q2 _ ?_ _ f bx', fun hn d H' f hx => q1 (.swap v) ?_ _ _ _ f ⟨rfl, d, rfl, hx⟩⟩
      · unfold stepB; simp only [hp]
      · unfold stepB; simp only [hn]
    | rerank v w oo =>
      obtain ⟨ht, ⟨d, hv⟩, rk, rn⟩ := hq
      obtain ⟨kb, kd⟩ := hv.kind
      refine ⟨_, rfl, t, _, _, _, rfl, rfl, SqT.of ht, at_of (j := 0) rfl rfl, rfl, _, rfl, iteN (by decide +kernel) ⟨_, rfl, t, _, _, _, rfl, rfl, SqT.of ht, at_of (j := 0) rfl rfl, rfl, _, rfl, iteP (decide_eq_true rfl) ?_⟩⟩
      refine ⟨_, rfl, b, dx, _, rfl, hb, nmR, _, rfl, t, _, _, _, rfl, rfl, SqT.of ht, at_of (j := 1) rfl rfl, _, rfl, t, _, _, _, rfl, rfl, SqT.of ht, at_of (j := 2) rfl rfl, b, c, s, n, m, x0, x, v, w, kb, oo, rfl, bx, g, hm, kd, rk, fun hn d H' f hx => q1 (.person v) ?_ _ _ _ f ⟨rfl, d, rfl, hx⟩, fun p hp ho d H' f hx => q1 (.rankings v) ?_ _ _ _ f ⟨rfl, d, rfl, hx⟩, fun p ns hp ho H' f bx' => q2 _ ?_ _ f bx'⟩
      · unfold stepB; simp only [hn]
      · unfold stepB; simp only [hp, ho]
      · unfold stepB; simp only [hp, ho]
end
end Sw
namespace L2
theorem Takes.len {X : Cx} {W : WX} (t : Takes X W) : Takes X (fun cls d σ H => σ.length = X.N.length → W cls d σ H) := fun u s' ⟨a, B, sI, pins, σ, H, cls, d, e, I, nb, up, sky, na, os, ag, w⟩ =>
  t u s' ⟨a, B, sI, pins, σ, H, cls, d, e, I, nb, up, sky, na, os, ag, w I.len⟩
end L2
namespace Sw
open PySem L2
/-- what _law_told makes of the lambda's reading -/
def TTs (K : PySem.W.Frag) (A : Ad) : (XK → Hp → VK → Prop) → Hp → VK → Prop := fun tl H Q =>
  ∀ l0, H l0 = none → tl (fun cls d H' => ∃ (C : Addr) (e : Err), cls = .ref C ∧ PySem.W.exmOne K cls (.ref A.SE) = some true ∧ ExcCD A H' e C d ∧ ∀ p H'', Frm [] H' H'' → H' p = none → H'' p = some (.tup (errV e)) → Q (.ref p) H'') (upd H l0 (.lst []))
    fun v H' => ∀ l, H' l = none → Q (.ref l) (upd H' l (.lst [v]))
theorem sc_told : FnScope ["_law_deed", "_law_error_here", "_law_found", "e"] ["_law_deed"] (defScope s_L_told) := ⟨rfl, rfl, rfl, by decide +kernel, rfl, by decide +kernel, by decide +kernel⟩
theorem told_gives {X : Cx} {A : Ad} (T : Tx X.K X.mg A) (DC : Df X.prog X.w X.K X.mg X.base CX0 1 "_law_class" ["_law_error_here"] (spClass A)) (hr : Room 2 X.A) {g : Addr} {cdg : Value} {q : Str} :
    LamX.GivesTo X ["_law_deed", "_law_error_here", "_law_found", "e"] "_law_told" (defScope s_L_told) g cdg (defBody s_L_told) "_law_deed" q (TTs X.K A) := by
  intro f c' s H Q tl act hc h
  have nd := sc_told.nd
  have hr' : Room 1 (X.A.deeper (PyProof.Rows.envOfC "_law_told" (defScope s_L_told) s.heap.objs.size g cdg)) := hr.deeper _
  refine ⟨_, (pss_cons (ps_par (i := 1) (j := 2) (by rfl) nd rfl rfl (by decide) rfl rfl (pa_cons pe_non (pa_cons (pe_lst pa_nil) pa_nil)) (by rfl)) (pss_cons (ps_try_keep (i := 3) (c := .ref A.SE) rfl rfl rfl nd rfl rfl ⟨rfl, by decide, .inl T.mgSE⟩ (fun W pn xe tk _ => (pss_one (ps_set (i := 2) nd rfl (.inl rfl) (pe_lst (pa_cons (pe_cut (⟨fun pins s' σ H' Q I h' => by
          obtain ⟨Ech, hW, h1, h2, h3⟩ := h'
          exact (act (fun cls d σ' H' => σ'.length = 4 → W cls d σ' H') pn xe Ech _ _ tk.len (fun cls d σ' H' e hl => hW cls d σ' H' e hl)).run pins s' σ H' Q I ⟨h1, h2, h3⟩⟩ : PE _ _ (fun σ H Q => ∃ Ech : XK, (∀ cls d σ' H', Ech cls d H' → σ'.length = 4 → W cls d σ' H') ∧ σ[0]? = some (some (.ref f)) ∧ H c' = some (LamX.CodeO c' q) ∧ tl Ech H Q))) pa_nil))))) (fun a oe pn => (pss_one (ps_set (i := 1) nd rfl (.inl rfl) (pv 3))))) (pss_one (ps_ret (pe_ifExp (pt_cmp (pc_isN (pv 1))) (pv 2) (pe_df DC hr' pass0 (pa_cons (pv 1) pa_nil))))))), ?_⟩
  refine ⟨by show 0 ≤ sizeLine; decide, fun l0 hl0 => ⟨_, _, rfl, ?_⟩⟩
  have h2 := h l0 hl0
  have hc2 : (upd H l0 (.lst [])) c' = some (LamX.CodeO c' q) := by rw [upd_ne (ne_of_none hc hl0)]; exact hc
  refine ⟨fun v H' => ∀ l, H' l = none → Q (.ref l) (upd H' l (.lst [v])), ⟨_, fun cls d σ' H' e hl => ?_, rfl, hc2, h2⟩, fun v H' hv => ⟨by show 1 ≤ sizeLine; decide, fun l hl => ?_⟩⟩
  · obtain ⟨C, er, rfl, hex, hcd, k⟩ := e
    match σ', hl with
    | [s0, s1, s2, s3], _ =>
    refine ⟨hex, C, rfl, fun a ha => ⟨_, rfl, fun _ => ⟨_, rfl, _, rfl, iteN (by simp) ⟨_, rfl, a, C, d, er, rfl, upd_same, ?_, fun p hp => ?_⟩⟩⟩⟩
    · cases er with
      | nothing => exact hcd
      | swap v =>
        obtain ⟨e1, dd, e2, e3⟩ := hcd
        exact ⟨e1, dd, e2, by rw [upd_ne (ne_of_none e3 ha)]; exact e3⟩
      | person v =>
        obtain ⟨e1, dd, e2, e3⟩ := hcd
        exact ⟨e1, dd, e2, by rw [upd_ne (ne_of_none e3 ha)]; exact e3⟩
      | rankings v =>
        obtain ⟨e1, dd, e2, e3⟩ := hcd
        exact ⟨e1, dd, e2, by rw [upd_ne (ne_of_none e3 ha)]; exact e3⟩
    · have f : Frm [] H' (upd H' a (exk a C d)) := frm_new ha
      exact k p _ (f.new hp) (f.tk _ hp) upd_same
  · exact ⟨_, rfl, _, rfl, iteP (by simp) ⟨_, rfl, hv l hl⟩⟩
end Sw
set_option maxHeartbeats 4000000
/-! Swaprow: a drawn change -/
namespace Sw
open PySem L2
theorem alI_len {n : Nat} {R : List (List Int)} {B : List Int} : (alI n R B).length ≤ n - 1 := by
  unfold alI allowed
  rw [List.length_map]
  have := List.length_filter_le (may R B) (List.range (n - 1))
  rw [List.length_range] at this
  exact this
def OD (N : Addr → Prop) (H : Hp) (v : V) : Prop := ∃ d, OddV N H v d
def RKp (N : Addr → Prop) (n : Nat) (H : Hp) (w : V) : Prop := ∃ o, RkArg H n w o ∧ RkN N H w
section
variable {TP : List (Addr × Str) → Prop} {fs : List Addr} {N : Addr → Prop} {H H1 : Hp} {n : Nat} {v w : V} {a : Addr}
theorem OD.frm (h : OD N H v) (f : FrmT TP fs H H1) (hN : ∀ a, N a → a ∉ fs) : OD N H1 v := let ⟨d, h⟩ := h; ⟨d, h.frm f hN⟩
theorem OD.frm0 (h : OD N H v) (f : FrmT TP [] H H1) : OD N H1 v := h.frm f fun _ _ z => nomatch z
theorem RKp.frm (h : RKp N n H w) (f : FrmT TP fs H H1) (hN : ∀ a, N a → a ∉ fs) : RKp N n H1 w := let ⟨o, h, k⟩ := h; ⟨o, h.frm f fun a xs e q => hN a (k a xs e q), k.frm h f hN⟩
theorem RKp.frm0 (h : RKp N n H w) (f : FrmT TP [] H H1) : RKp N n H1 w := h.frm f fun _ _ z => nomatch z
theorem RKp.tf {ns : List Int} (h : TF H a ns) (l : ns.length ≤ 100) : RKp N n H (.ref a) := ⟨_, .int h l, fun b xs e q => by
  obtain rfl := V.ref.inj e
  obtain ⟨_, h, _⟩ := h
  rw [h] at q; cases q⟩
end
structure CSt (M : Mm) (H : Hp) (av : List Addr) (k : Addr) (x : Box) (H' : Hp) (b : Nat) : Prop where
  f : Frm M.fs H H'
  m : MAt H' M b
  kp : KeptAt av H' k x
theorem CSt.ext {M : Mm} {H H' H1 : Hp} {av : List Addr} {k : Addr} {x : Box} {b : Nat} (s : CSt M H av k x H' b) (f : Frm [] H' H1) : CSt M H av k x H1 b := ⟨s.f.tr0 f, s.m.frm0 f, s.kp.frm0 f⟩
theorem CSt.drawn {M : Mm} {H H' H1 : Hp} {av : List Addr} {k : Addr} {x : Box} {b b1 : Nat} (s : CSt M H av k x H' b) (f : Frm M.fs H' H1) (m : MAt H1 M b1) (h : ∀ z ∈ M.fs, z ∈ av) : CSt M H av k x H1 b1 := ⟨s.f.tr f, m, s.kp.frm f h⟩
theorem rep_flat (n : Nat) : (List.replicate n [V.bl true]).flatten = (List.replicate n true).map V.bl := by
  induction n with
  | zero => rfl
  | succ n ih => rw [List.replicate_succ, List.flatten_cons, ih, List.replicate_succ]; rfl
theorem str0 : ("0" : Str) = ⟨#[48]⟩ := by decide +kernel
section
variable {P : Program} {w : World} {K : PySem.W.Frag} {mg : Str → Option Value} {base : Heap} {A : Ad}
theorem sc_change : FnScope ["_law_m", "_law_kept", "_law_many", "_law_way", "_law_some", "_law_who", "_law_odd", "_law_full", "_law_lists_here", "_law_at"] ["_law_m", "_law_kept"] (defScope s_L_change) := ⟨rfl, rfl, rfl, by decide +kernel, rfl, by decide +kernel, by decide +kernel⟩
theorem ok_change (T : Tx K mg A) (D : DefAt K mg "_law_change" s_L_change) (D1 : Df P w K mg base CX0 2 "_law_draw" ["_law_m", "_law_top"] spDraw) (D2 : Df P w K mg base CX0 3 "_law_mixed_up" ["_law_m", "_law_things"] spMixedUp)
    (D3 : Df P w K mg base CX0 2 "_law_may" ["_law_lists_here", "_law_row", "_law_at"] spMay) : Df P w K mg base CX0 4 "_law_change" ["_law_m", "_law_kept"] spChange := by
  refine Df.of0 D (fun _ _ _ _ _ _ us hl => match us, hl with | [_, _], _ => rfl) sc_change (fun vs H Q E h => ?_) (fun f cdv A' outer s H vs Q E hr h => ?_)
  · obtain ⟨M, bd, k, av, n, m0, x0, x, rfl, _⟩ := h
    rfl
  · obtain ⟨M, bd, k, av, n, m0, x0, x, rfl, m, hbd, hk, hsub, g, q⟩ := h
    have nd := sc_change.nd
    have hu := hu_of hr
    have el : (x.A.map V.int).length = n := by rw [List.length_map]; exact g.lA
    have n8 := g.n8
    have n1 := g.n1
    refine ⟨_, (pss_cons (ps_par (i := 2) (j := 3) (by rfl) nd rfl rfl (by decide) rfl rfl (pa_cons (pe_len T.len (pe_dget hu (pv 1) pe_str (fun _ _ => rfl))) (pa_cons (pe_df D1 (hr.mono (by decide)) pass0 (pa_cons (pv 0) (pa_cons pe_int pa_nil))) pa_nil)) (by rfl)) (pss_cons (ps_setLc (i := 4) (own := [("_law_at", 9)]) (g := gName 9) (by rfl) nd rfl rfl (sw_true rfl rfl rfl (by decide +kernel)) (pi_range1 (by rfl) T.range (pa_cons (pe_op op_sub (pv 2) pe_int) pa_nil)) (blkOk_by (own := [("_law_at", 9)]) (N := ["_law_m", "_law_kept", "_law_many", "_law_way", "_law_some", "_law_who", "_law_odd", "_law_full", "_law_lists_here", "_law_at"]) (sc := defScope s_L_change) (by decide +kernel))
          (fun _ _ _ _ _ => pg_name (i := 9) nd rfl (Or.inl rfl)) (fun _ _ _ _ _ => pts_one (pt_val (pe_df D3 (hr.mono (by decide)) pass0 (pa_cons (pe_dget hu (pv 1) pe_str (fun _ _ => rfl)) (pa_cons (pe_dget hu (pv 1) pe_str (fun _ _ => rfl)) (pa_cons (pv 9) pa_nil)))))) (fun _ _ _ _ _ => pv 9)) (pss_cons (ps_if (pt_cut (PW.pt (pw_and (pt_cmpR op_lt (pv 3) pe_int (nomark _)) (pw_and1 (pt_cmpR (op_neD hr.units) (pv 4) (pe_lst pa_nil) (nomark _)))))) (pss_one (ps_ret (pe_tup (pa_cons pe_str (pa_cons (pe_ix ix_list (pv 4) (pe_df D1 (hr.mono (by decide)) pass0 (pa_cons (pv 0) (pa_cons (pe_len T.len (pv 4)) pa_nil))) (fun _ _ => rfl)) pa_nil))))) pss_nil) (pss_cons (ps_if (pt_cmpR op_lt (pv 3) pe_int (nomark _)) (pss_cons (ps_set (i := 5) nd rfl (.inl rfl) (pe_df D1 (hr.mono (by decide)) pass0 (pa_cons (pv 0) (pa_cons (pv 2) pa_nil)))) (pss_one (ps_ret (pe_tup (pa_cons pe_str (pa_cons (pv 5) (pa_cons (pe_callTy call_tupleF (by rfl) T.tuple (by decide +kernel) (pa_cons (pe_df D2 hr pass0 (pa_cons (pv 0) (pa_cons (pe_callTy call_list_of (by rfl) T.list (by decide +kernel) (pa_cons (pe_ix ix_tup (pe_dget hu (pv 1) pe_str (fun _ _ => rfl)) (pv 5) (fun _ _ => rfl)) pa_nil)) pa_nil))) pa_nil)) pa_nil))))))) pss_nil) (pss_cons (ps_if (pt_cmpR op_eq (pv 3) pe_int (nomark _)) (pss_one (ps_ret (pe_tup (pa_cons pe_str pa_nil)))) pss_nil) (pss_cons (ps_cut (ps_set (i := 6) nd rfl (.inl rfl) (pe_lst (pa_cons (pv 2) (pa_cons (pe_op op_sub pe_int pe_int) (pa_cons pe_bl (pa_cons pe_non (pa_cons pe_str (pa_cons (pe_tup (pa_cons pe_int pa_nil)) (pa_cons (pe_lst (pa_cons pe_int pa_nil)) (pa_cons (pe_op op_sub (pv 2) pe_int) (pa_cons (pe_op op_pow pe_int pe_int) pa_nil)))))))))))) (pss_cons (ps_if (pt_cmpR op_eq (pv 3) pe_int (nomark _)) (pss_one (ps_ret (pe_tup (pa_cons pe_str (pa_cons (pe_ix ix_list (pe_op op_cat (pv 6) (pe_listRg rfl (by rfl) T.list (prg_1 (by rfl) T.range (pe_op op_sub (pv 2) pe_int)))) (pe_df D1 (hr.mono (by decide)) pass0 (pa_cons (pv 0) (pa_cons (pe_op op_add pe_int (pv 2)) pa_nil))) (fun _ _ => rfl)) pa_nil))))) pss_nil) (pss_cons (ps_set (i := 7) nd rfl (.inl rfl) (pe_tupRgF rfl (by rfl) T.tuple (prg_1 (by rfl) T.range (pv 2)))) (pss_cons (ps_cut (ps_set (i := 8) nd rfl (.inl rfl) (pe_lst (pa_cons (pv 7) (pa_cons (pe_slice sl_tupF (pv 7) (po_some pe_int) po_none) (pa_cons (pe_op op_catF (pv 7) (pe_tupF (pa_cons (pv 2) pa_nil))) (pa_cons (pe_op op_catF (pe_slice sl_tupF (pv 7) po_none (po_some (pe_un un_neg pe_int))) (pe_tupF (pa_cons pe_int pa_nil))) (pa_cons (pe_callTy call_list_of (by rfl) T.list (by decide +kernel) (pa_cons (pv 7) pa_nil)) (pa_cons pe_non (pa_cons (pe_cut (pe_op op_rep1 (pe_tup (pa_cons pe_bl pa_nil)) (pv 2))) (pa_cons (pe_revF (pv 7)) pa_nil))))))))))) (pss_one (ps_ret (pe_tup (pa_cons pe_str (pa_cons (pe_ix ix_list (pe_op op_cat (pe_slice sl_list (pv 6) po_none (po_some pe_int)) (pe_lst (pa_cons pe_int (pa_cons (pe_op op_sub (pv 2) pe_int) pa_nil)))) (pe_df D1 (hr.mono (by decide)) pass0 (pa_cons (pv 0) (pa_cons pe_int pa_nil))) (fun _ _ => rfl)) (pa_cons (pe_ix ix_list (pv 8) (pe_df D1 (hr.mono (by decide)) pass0 (pa_cons (pv 0) (pa_cons pe_int pa_nil))) (fun _ _ => rfl)) pa_nil))))))))))))))), ?_⟩
    obtain ⟨r, a, pp, dd, ek, hT, hI, npa, nda, _, _⟩ := hk.ob
    refine ⟨_, rfl, k, _, rfl, dgetK (k := Sum.inr "row") ek (kg_row _ _ _ _), a, _, rfl, .inr hI, _, rfl, M, bd, 10, rfl, m, by omega, by omega, by omega, fun way H1 hway f1 m1 => ⟨_, _, rfl, ?_⟩⟩
    rw [el]
    have s1 : CSt M H av k x H1 (bd + 1) := ⟨f1, m1, hk.frm f1 hsub⟩
    have nofs : ∀ z, H z = none → z ∉ M.fs := fun z h => m.nofs h
    have eln : (n : Int) - 1 = ((n - 1 : Nat) : Int) := by omega
    obtain ⟨r, a, pp, dd, ek1, hT1, hI1, npa, nda, _, _⟩ := s1.kp.ob
    refine ⟨_, rfl, _, _, rfl, rfl, _, rfl, by omega, by rw [eln]; omega, fun D hD => ?_⟩
    rw [eln, Int.toNat_natCast]
    refine lc_range (lo := 0) (n := n - 1) (fun i H' => Frm [] H1 H' ∧ H' D = some (.lst (((List.range i).filter (may x.R x.A)).map fun j : Nat => V.int (j : Nat)))) ⟨frm_new hD, upd_same⟩ (fun i H' hi z => ?_) (fun H2 z => ?_)
    · obtain ⟨f3, g3⟩ := z
      have ek3 := f3.dk ek1 (fun z => nomatch z)
      refine ⟨rfl, _, rfl, k, _, rfl, dgetK (k := Sum.inr "lists") ek3 (kg_lists _ _ _ _), _, rfl, k, _, rfl, dgetK (k := Sum.inr "row") ek3 (kg_row _ _ _ _), _, rfl, r, a, n, i, x.ra, by rw [Int.zero_add]; rfl, hT1.frm f3, hI1.frm f3, g.val, by omega, _, rfl, ?_⟩
      have hl : (((List.range i).filter (may x.R x.A)).map fun j : Nat => V.int (j : Nat)).length < sizeLine := by
        rw [List.length_map]
        refine small1000 ?_
        have := List.length_filter_le (may x.R x.A) (List.range i)
        rw [List.length_range] at this
        omega
      refine iteB (fun hb => ?_) (fun hb => ?_)
      · have hb' : may x.R x.A i = true := hb
        refine ⟨_, rfl, _, g3, hl, f3.put (.inl hD) (pl_lst g3), ?_⟩
        rw [upd_same, List.range_succ, List.filter_append, List.map_append, Int.zero_add]
        simp [hb']
      · have hb' : may x.R x.A i = false := hb
        refine ⟨f3, ?_⟩
        rw [g3, List.range_succ, List.filter_append]
        simp [hb']
    obtain ⟨f2, g2⟩ := z
    have g2' : H2 D = some (.lst ((alI n x.R x.A).map V.int)) := by
      unfold alI allowed
      rw [g2, List.map_map]
      rfl
    have s2 := s1.ext f2
    have zD : H D = none := s1.f.tk _ hD
    have lal := alI_len (n := n) (R := x.R) (B := x.A)
    generalize alI n x.R x.A = sI at g2' lal
    refine ⟨fun b H' => CSt M H av k x H' (bd + 1) ∧ H' D = some (.lst (sI.map V.int)) ∧ (b = true → sI ≠ []), ?_, ?_⟩
    · refine ⟨_, rfl, _, _, rfl, rfl, _, rfl, ite2 (fun _ => ?_) (fun _ => ⟨s2, g2', fun z => nomatch z⟩)⟩
      refine ⟨_, rfl, by show 0 ≤ sizeLine; decide, fun l hl => ?_⟩
      have f3 : Frm [] H2 (upd H2 l (.lst [])) := frm_new hl
      have g3 := f3.lst g2' (fun z => nomatch z)
      refine ⟨.list (sI.map PyData.int), .list [], .lst (SqL.of g3) (dp_ints sI), .lst (SqL.of upd_same) .nil, (sh_ints sI).shaped (by decide), sh_nil1.shaped (by decide), _, rfl, s2.ext f3, g3, fun hb e => ?_⟩
      rw [ints_nil_eqv, decide_eq_true e] at hb
      cases hb
    intro b H3 z
    obtain ⟨s3, g3, hb⟩ := z
    refine ite2 (fun hbt => ?_) (fun _ => ?_)
    · have hne := hb hbt
      have lpos : 0 < sI.length := List.length_pos_iff.mpr hne
      refine ⟨_, rfl, _, rfl, _, rfl, D, _, rfl, .inl g3, M, bd + 1, sI.length, by rw [List.length_map]; rfl, s3.m, by omega, by omega, by omega, fun j H4 hj f4 m4 => ?_⟩
      have s4 := s3.drawn f4 m4 hsub
      refine ⟨D, _, _, _, rfl, rfl, SqL.of (f4.lst g3 (nofs D zD)), atI_nat (vgt hj), by show 2 ≤ sizeLine; decide, fun p hp => ?_⟩
      have f5 : Frm [] H4 (upd H4 p (.tup [.str "swap", .int sI[j]])) := frm_new hp
      have s5 := s4.ext f5
      exact q p _ (.swap (.int sI[j])) ⟨upd_same, _, .int _⟩ s5.f (s5.m.mono (by omega))
    obtain ⟨r, a, pp, dd, ek3, hT3, hI3, npa, nda, _, _⟩ := s3.kp.ob
    refine ⟨_, rfl, _, _, rfl, rfl, _, rfl, ite2 (fun _ => ?_) (fun _ => ?_)⟩
    · refine ⟨_, rfl, _, rfl, M, bd + 1, n, rfl, s3.m, by omega, by omega, by omega, fun who H4 hwho f4 m4 => ?_⟩
      have s4 := s3.drawn f4 m4 hsub
      obtain ⟨r, a, pp, dd, ek4, hT4, hI4, npa, nda, _, _⟩ := s4.kp.ob
      obtain ⟨qs, e, pd⟩ := hT4
      have hRl : who < x.R.length := by rw [g.lR]; exact hwho
      obtain ⟨wv, hwv, wa, rfl, hns⟩ := pd_get pd (List.getElem?_eq_getElem hRl)
      have hpm := g.val.pR _ (List.getElem_mem hRl)
      replace hns : TF H4 wa x.R[who] := hns
      generalize x.R[who] = ns at hns hpm
      refine ⟨_, rfl, _, rfl, _, rfl, k, _, rfl, dgetK (k := Sum.inr "lists") ek4 (kg_lists _ _ _ _), _, rfl, r, _, _, _, rfl, rfl, SqT.of e, atI_nat hwv, wa, _, rfl, .inr hns.sq, fun l hl => ?_⟩
      have f5 : Frm [] H4 (upd H4 l (.lst (ns.map V.int))) := frm_new hl
      have s5 := s4.ext f5
      refine ⟨M, bd + 1 + 1, l, ns, rfl, s5.m, by omega, upd_same, by rw [hpm.1]; omega, fun ys p H6 hpmy hp gp f6 m6 => ?_⟩
      have s6 := s5.drawn f6 m6 hsub
      refine ⟨p, _, rfl, gp, fun t1 H7 ht1 f7 tf => ?_⟩
      have s7 := s6.ext f7
      refine ⟨by show 3 ≤ sizeLine; decide, fun t ht => ?_⟩
      have f8 : Frm [] H7 (upd H7 t (.tup [.str "rerank", .int who, .ref t1])) := frm_new ht
      have s8 := s7.ext f8
      have tf8 : TF (upd H7 t (.tup [.str "rerank", .int who, .ref t1])) t1 ys := TF.frm tf f8
      obtain ⟨o, rk, rn⟩ := RKp.tf (N := fun a => H a = none) (n := n) tf8 (by rw [hpmy.length_eq, hpm.1]; omega)
      exact q t _ (.rerank (.int who) (.ref t1) o) ⟨upd_same, ⟨_, .int _⟩, rk, rn⟩ s8.f (s8.m.mono (by omega))
    refine ⟨_, rfl, rfl, _, rfl, ite2 (fun _ => ?_) (fun _ => ?_)⟩
    · refine ⟨by show 1 ≤ sizeLine; decide, fun t ht => ?_⟩
      have f4 : Frm [] H3 (upd H3 t (.tup [.str "undo"])) := frm_new ht
      exact q t _ .undo upd_same (s3.ext f4).f ((s3.ext f4).m.mono (by omega))
    -- odd values
    refine ⟨fun σ' H' => ∃ (O : Addr) (odds : List V), σ' = [some (.ref M.dm), some (.ref k), some (.int n), some (.int way), some (.ref D), none, some (.ref O), none, none, none] ∧ CSt M H av k x H' (bd + 1) ∧ odds.length = 9 ∧ H O = none ∧ H' O = some (.lst odds) ∧ ∀ v ∈ odds, OD (fun a => H a = none) H' v, ?_, ?_⟩
    · refine ⟨_, rfl, _, _, rfl, rfl, by show 1 ≤ sizeLine; decide, fun t0 ht0 => ⟨by show 1 ≤ sizeLine; decide, fun l0 hl0 => ⟨_, rfl, _, _, rfl, rfl, _, _, rfl, rfl, ⟨by decide, by decide, by decide⟩, by show 9 ≤ sizeLine; decide, fun O hO => ?_⟩⟩⟩
      have f4 : Frm [] H3 (upd H3 t0 (.tup [.int 0])) := frm_new ht0
      have f5 := f4.new (o := .lst [.int 0]) hl0
      have f6 := f5.new (o := .lst [.int n, .int (0 - 1), .bl true, .non, .str "0", .ref t0, .ref l0, .int (n - 1), .int (10 ^ (20 : Int).toNat)]) hO
      have zl0 : H l0 = none := s3.f.tk _ (f4.tk _ hl0)
      have gt : (upd (upd (upd H3 t0 (.tup [.int 0])) l0 (.lst [.int 0])) O (.lst [.int n, .int (0 - 1), .bl true, .non, .str "0", .ref t0, .ref l0, .int (n - 1), .int (10 ^ (20 : Int).toNat)])) t0 = some (.tup [.int 0]) := ((frm_new (TP := fun _ => True) (fs := []) hl0).new hO).tp _ _ upd_same
      have gl : (upd (upd (upd H3 t0 (.tup [.int 0])) l0 (.lst [.int 0])) O (.lst [.int n, .int (0 - 1), .bl true, .non, .str "0", .ref t0, .ref l0, .int (n - 1), .int (10 ^ (20 : Int).toNat)])) l0 = some (.lst [.int 0]) := (frm_new (TP := fun _ => True) (fs := []) hO).lst upd_same (fun z => nomatch z)
      refine ⟨O, [.int n, .int (0 - 1), .bl true, .non, .str "0", .ref t0, .ref l0, .int (n - 1), .int (10 ^ (20 : Int).toNat)], rfl, s3.ext f6, rfl, s3.f.tk _ (f5.tk _ hO), upd_same, fun v hv => ?_⟩
      simp only [List.mem_cons, List.not_mem_nil, or_false] at hv
      rcases hv with rfl | rfl | rfl | rfl | rfl | rfl | rfl | rfl | rfl
      · exact ⟨_, .int _⟩
      · exact ⟨_, .int _⟩
      · exact ⟨_, .bl _⟩
      · exact ⟨_, .non⟩
      · rw [str0]; exact ⟨_, .str 48 (by decide)⟩
      · exact ⟨_, .tup gt⟩
      · exact ⟨_, .lst zl0 gl⟩
      · exact ⟨_, .int _⟩
      · exact ⟨_, .int _⟩
    rintro σ' H4 ⟨O, odds, rfl, s4, lO, zO, gO, hO⟩
    refine ⟨_, rfl, rfl, _, rfl, ite2 (fun _ => ?_) (fun _ => ?_)⟩
    · refine ⟨_, rfl, _, rfl, _, _, rfl, rfl, _, rfl, .of_le (by decide) (by omega) (by decide) (by omega), fun r1 hr1 => ?_⟩
      have f5 : Frm [] H4 (upd H4 r1 (.lst (rgV 0 ((n : Int) - 1)))) := frm_new hr1
      refine ⟨O, r1, _, _, rfl, rfl, f5.lst gO (fun z => nomatch z), upd_same, by rw [lO, rgV_length, sizeLine_eq]; omega, fun c1 hc1 => ?_⟩
      have f6 := f5.new (o := .lst (odds ++ rgV 0 ((n : Int) - 1))) hc1
      have s6 := s4.ext f6
      refine ⟨_, rfl, _, rfl, _, _, rfl, rfl, M, bd + 1, 8 + n, by rw [show ((8 + n : Nat) : Int) = 8 + (n : Int) by omega]; rfl, s6.m, by omega, by omega, by omega, fun j H7 hj f7 m7 => ?_⟩
      have s7 := s6.drawn f7 m7 hsub
      have zc : H c1 = none := s4.f.tk _ (f5.tk _ hc1)
      have gc : H7 c1 = some (.lst (odds ++ rgV 0 ((n : Int) - 1))) := f7.lst upd_same (nofs c1 zc)
      have hjl : j < (odds ++ rgV 0 ((n : Int) - 1)).length := by rw [List.length_append, lO, rgV_length]; omega
      have hx := List.getElem?_eq_getElem hjl
      have hod : OD (fun a => H a = none) H7 (odds ++ rgV 0 ((n : Int) - 1))[j] := by
        rcases List.mem_append.mp (List.getElem_mem hjl) with h | h
        · exact ((hO _ h).frm0 f6).frm f7 fun a ha => nofs a ha
        · unfold rgV at h
          obtain ⟨i, _, e⟩ := List.mem_map.mp h
          unfold rgV
          rw [← e]
          exact ⟨_, .int _⟩
      generalize (odds ++ rgV 0 ((n : Int) - 1))[j] = u at hx hod
      refine ⟨c1, _, _, _, rfl, rfl, SqL.of gc, atI_nat hx, by show 2 ≤ sizeLine; decide, fun p hp => ?_⟩
      have f8 : Frm [] H7 (upd H7 p (.tup [.str "swap", u])) := frm_new hp
      exact q p _ (.swap u) ⟨upd_same, hod.frm0 f8⟩ (s7.ext f8).f ((s7.ext f8).m.mono (by omega))
    -- the whole
    refine ⟨_, rfl, _, rfl, .of_le (by decide) (by omega) (by decide) (by omega), fun F H5 hF f5 tF => ?_⟩
    rw [rgV_rng] at tF
    have s5 := s4.ext f5
    have gO5 := f5.lst gO (fun z => nomatch z)
    have hO5 : ∀ v ∈ odds, OD (fun a => H a = none) H5 v := fun v hv => (hO v hv).frm0 f5
    replace tF : TF H5 F (rng n) := tF
    have ln := rng_len n
    refine ⟨fun σ' H' => ∃ (L : Addr) (ws : List V), σ' = [some (.ref M.dm), some (.ref k), some (.int n), some (.int way), some (.ref D), none, some (.ref O), some (.ref F), some (.ref L), none] ∧ Frm [] H5 H' ∧ ws.length = 8 ∧ H' L = some (.lst ws) ∧ H L = none ∧ ∀ w ∈ ws, RKp (fun a => H a = none) n H' w, ?_, ?_⟩
    · refine ⟨_, rfl, _, rfl, 1, rfl, F, _, rfl, tF, fun p1 G1 h1 t1 => ?_⟩
      have e1 : cutV ((rng n).map V.int) (some 1) none = ((rng n).drop 1).map V.int := by rw [show (1 : Int) = ((1 : Nat) : Int) from rfl, cut_drop, List.map_drop]
      rw [e1] at t1
      replace t1 : TF G1 p1 ((rng n).drop 1) := t1
      refine ⟨_, rfl, _, rfl, by show 1 ≤ sizeLine; decide, fun p2 G2 hp2 h2 t2 => ⟨F, p2, _, _, rfl, rfl, (tF.frm h1).frm h2, t2, by rw [List.length_map, ln]; simp; omega, fun p3 G3 h3 t3 => ?_⟩⟩
      have h03 := h1.tr (h2.tr h3)
      replace t3 : TF G3 p3 (rng n ++ [(n : Int)]) := by unfold TF; rw [List.map_append]; exact t3
      refine ⟨_, rfl, 1, rfl, -1, rfl, F, _, rfl, tF.frm h03, fun p4 G4 h4 t4 => ⟨by show 1 ≤ sizeLine; decide, fun p5 G5 hp5 h5 t5 => ?_⟩⟩
      rw [cut_last] at t4
      have t4' : TFv G5 p4 ((rng n).map V.int).dropLast := TF.frm (ns := (rng n).dropLast) (by unfold TF; rw [List.map_dropLast]; exact t4) h5 |> fun z => by unfold TF at z; rw [List.map_dropLast] at z; exact z
      refine ⟨p4, p5, _, _, rfl, rfl, t4', t5, by rw [List.length_dropLast, List.length_map, ln]; simp; omega, fun p6 G6 h6 t6 => ?_⟩
      have h36 := h4.tr (h5.tr h6)
      have h06 := h03.tr h36
      replace t6 : TF G6 p6 ((rng n).dropLast ++ [(0 : Int)]) := by unfold TF; rw [List.map_append, List.map_dropLast]; exact t6
      have tF6 := tF.frm h06
      refine ⟨_, rfl, F, _, rfl, .inr tF6.sq, fun p7 hp7 => ?_⟩
      have h7 : Frm [] G6 (upd G6 p7 (.lst ((rng n).map V.int))) := frm_new hp7
      have g7 : (upd G6 p7 (.lst ((rng n).map V.int))) p7 = some (.lst ((rng n).map V.int)) := upd_same
      generalize upd G6 p7 (.lst ((rng n).map V.int)) = G7 at h7 g7
      have h07 := h06.tr h7
      refine ⟨fun w G8 => ∃ p, w = .ref p ∧ Frm [] G7 G8 ∧ G8 p = some (.tup ((List.replicate n true).map V.bl)), ?_, ?_⟩
      · refine ⟨by show 1 ≤ sizeLine; decide, fun t ht => ⟨_, rfl, t, n, _, rfl, rfl, SqT.of upd_same, by simp, by omega, by omega, by simp, fun e => ⟨t, rfl, frm_new ht, ?_⟩, fun _ p hp => ⟨p, rfl, (frm_new ht).new hp, ?_⟩⟩⟩
        · have : n = 1 := by omega
          rw [this]; exact upd_same
        · rw [upd_same, Int.toNat_natCast, rep_flat]
      rintro w G8 ⟨p, rfl, h8, g8⟩
      have h08 := h07.tr h8
      refine ⟨_, rfl, F, _, rfl, (tF.frm h08).rd, fun p9 G9 hp9 h9 t9 => ⟨by show 8 ≤ sizeLine; decide, fun L hL => ?_⟩⟩
      have h09 := h08.tr h9
      replace t9 : TF G9 p9 (rng n).reverse := by unfold TF; rw [List.map_reverse]; exact t9
      have hE : Frm [] G9 (upd G9 L (.lst [.ref F, .ref p1, .ref p3, .ref p6, .ref p7, .non, .ref p, .ref p9])) := frm_new hL
      refine ⟨L, [.ref F, .ref p1, .ref p3, .ref p6, .ref p7, .non, .ref p, .ref p9], rfl, h09.tr hE, rfl, upd_same, s5.f.tk _ (h09.tk _ hL), fun w hw => RKp.frm0 ?_ hE⟩
      have zp7 : H p7 = none := s5.f.tk _ (h06.tk _ hp7)
      have h19 := (h2.tr h3).tr (h36.tr (h7.tr (h8.tr h9)))
      have h39 := h36.tr (h7.tr (h8.tr h9))
      have h69 := h7.tr (h8.tr h9)
      simp only [List.mem_cons, List.not_mem_nil, or_false] at hw
      rcases hw with rfl | rfl | rfl | rfl | rfl | rfl | rfl | rfl
      · exact RKp.tf (tF.frm h09) (by omega)
      · exact RKp.tf (t1.frm h19) (by rw [List.length_drop]; omega)
      · exact RKp.tf (t3.frm h39) (by rw [List.length_append]; simp; omega)
      · exact RKp.tf (t6.frm h69) (by rw [List.length_append, List.length_dropLast]; simp; omega)
      · have g79 := (h8.tr h9).lst g7 (fun z => nomatch z)
        exact ⟨none, .lst g79, fun a xs e _ => by obtain rfl := V.ref.inj e; exact zp7⟩
      · exact ⟨none, .non, fun a xs e _ => by cases e⟩
      · have g89 := h9.tp _ _ g8
        exact ⟨none, .bl g89 (by cases n with | zero => omega | succ n => simp [List.replicate_succ]) (by rw [List.length_replicate]; omega), fun a xs e h => by obtain rfl := V.ref.inj e; rw [g89] at h; cases h⟩
      · exact RKp.tf t9 (by rw [List.length_reverse]; omega)
    rintro σ' H6 ⟨L, ws, rfl, f6, lW, gW, zL, hW⟩
    have s6 := s5.ext f6
    have gO6 := f6.lst gO5 (fun z => nomatch z)
    have hO6 : ∀ v ∈ odds, OD (fun a => H a = none) H6 v := fun v hv => (hO5 v hv).frm0 f6
    refine ⟨_, rfl, 7, rfl, O, _, rfl, SqL.of gO6, fun c1 hc1 => ?_⟩
    have e7 : cutV odds none (some 7) = odds.take 7 := by rw [show (7 : Int) = ((7 : Nat) : Int) from rfl, cut_take (by omega)]
    rw [e7]
    refine ⟨_, rfl, _, _, rfl, rfl, by show 2 ≤ sizeLine; decide, fun c2 hc2 => ?_⟩
    have f7 : Frm [] H6 (upd H6 c1 (.lst (odds.take 7))) := frm_new hc1
    have f8 := f7.new (o := .lst [.int 0, .int (n - 1)]) hc2
    have g1 : (upd (upd H6 c1 (.lst (odds.take 7))) c2 (.lst [.int 0, .int (n - 1)])) c1 = some (.lst (odds.take 7)) := by rw [upd_ne (ne_of_none upd_same hc2), upd_same]
    refine ⟨c1, c2, _, _, rfl, rfl, g1, upd_same, by rw [List.length_take, lO, sizeLine_eq]; simp, fun c3 hc3 => ?_⟩
    have f9 := f8.new (o := .lst (odds.take 7 ++ [.int 0, .int (n - 1)])) hc3
    have s9 := s6.ext f9
    refine ⟨_, rfl, M, bd + 1, 9, rfl, s9.m, by omega, by omega, by omega, fun j1 H10 hj1 f10 m10 => ?_⟩
    have s10 := s9.drawn f10 m10 hsub
    have z3 : H c3 = none := s6.f.tk _ (f8.tk _ hc3)
    have g3 : H10 c3 = some (.lst (odds.take 7 ++ [.int 0, .int (n - 1)])) := f10.lst upd_same (nofs c3 z3)
    have hjl : j1 < (odds.take 7 ++ [V.int 0, .int (n - 1)]).length := by rw [List.length_append, List.length_take, lO]; exact hj1
    have hx1 := List.getElem?_eq_getElem hjl
    have hod : OD (fun a => H a = none) H10 (odds.take 7 ++ [V.int 0, .int (n - 1)])[j1] := by
      rcases List.mem_append.mp (List.getElem_mem hjl) with h | h
      · exact ((hO6 _ (List.mem_of_mem_take h)).frm0 f9).frm f10 fun a ha => nofs a ha
      · simp only [List.mem_cons, List.not_mem_nil, or_false] at h
        rcases h with h | h
        · rw [h]; exact ⟨_, .int _⟩
        · rw [h]; exact ⟨_, .int _⟩
    generalize (odds.take 7 ++ [V.int 0, .int (n - 1)])[j1] = u at hx1 hod
    refine ⟨c3, _, _, _, rfl, rfl, SqL.of g3, atI_nat hx1, ?_⟩
    refine ⟨_, rfl, _, rfl, M, bd + 1 + 1, 8, rfl, s10.m, by omega, by omega, by omega, fun j2 H11 hj2 f11 m11 => ?_⟩
    have s11 := s10.drawn f11 m11 hsub
    have gW11 : H11 L = some (.lst ws) := f11.lst (f10.lst (f9.lst gW (fun z => nomatch z)) (nofs L zL)) (nofs L zL)
    have hjw : j2 < ws.length := by omega
    have hx2 := List.getElem?_eq_getElem hjw
    have hrk : RKp (fun a => H a = none) n H11 ws[j2] := (((hW _ (List.getElem_mem hjw)).frm0 f9).frm f10 fun a ha => nofs a ha).frm f11 fun a ha => nofs a ha
    generalize ws[j2] = w' at hx2 hrk
    refine ⟨L, _, _, _, rfl, rfl, SqL.of gW11, atI_nat hx2, by show 3 ≤ sizeLine; decide, fun t ht => ?_⟩
    have f12 : Frm [] H11 (upd H11 t (.tup [.str "rerank", u, w'])) := frm_new ht
    obtain ⟨oo, rk, rn⟩ := hrk.frm0 f12
    exact q t _ (.rerank u w' oo) ⟨upd_same, (hod.frm f11 fun a ha => nofs a ha).frm0 f12, rk, rn⟩ (s11.ext f12).f ((s11.ext f12).m.mono (by omega))
end
end Sw
set_option maxHeartbeats 4000000
/-! Swaprow: the row and the record agree -/
namespace Sw
open PySem L2
theorem dR_same (R : List (List Int)) : ¬ (!PyData.eqv (dR R) (dR R)) = true := by rw [eqv_dR, decide_eq_true rfl]; simp
theorem dI_same (R : List Int) : ¬ (!PyData.eqv (dI R) (dI R)) = true := by rw [eqv_dI, decide_eq_true rfl]; simp
theorem rev_ne {l : List Int} (hd : l.Nodup) (h2 : 2 ≤ l.length) : l.reverse ≠ l := fun e => by
  have h0 : l[0]? = some l[0] := List.getElem?_eq_getElem (by omega)
  have h1 : l[l.length - 1]? = some l[0] := by
    have := congrArg (fun m : List Int => m[0]?) e
    replace this : l.reverse[0]? = l[0]? := this
    rw [List.getElem?_reverse (by omega), Nat.sub_zero] at this
    rw [this]; exact h0
  have := nodup_ix hd h0 h1
  omega
section
variable {P : Program} {w : World} {K : PySem.W.Frag} {mg : Str → Option Value} {base : Heap} {A : Ad}
theorem sc_is_so : FnScope ["_law_box", "_law_kept", "_law_lists_here", "_law_row", "_law_at"] ["_law_box", "_law_kept"] (defScope s_L_is_so) := ⟨rfl, rfl, rfl, by decide +kernel, rfl, by decide +kernel, by decide +kernel⟩
theorem ok_is_so (T : Tx K mg A) (D : DefAt K mg "_law_is_so" s_L_is_so) (D1 : Dm P w K mg base CX0 1 A.C "rankings" ["self"] (spRankings A.C)) (D2 : Dm P w K mg base CX0 1 A.C "arrangement" ["self"] (spArr A.C)) (D3 : Dm P w K mg base CX0 7 A.C "allowed" ["self"] (spRowAllowed A.C))
    (D4 : Dm P w K mg base CX0 1 A.C "log" ["self"] (spRowLog A.C)) (D5 : Dm P w K mg base CX0 1 A.C "__len__" ["self"] (spRowLen A.C)) (D6 : Df P w K mg base CX0 2 "_law_may" ["_law_lists_here", "_law_row", "_law_at"] spMay) : Df P w K mg base CX0 8 "_law_is_so" ["_law_box", "_law_kept"] (spIsSo A) := by
  refine Df.of0 D (fun _ _ _ _ _ _ us hl => match us, hl with | [_, _], _ => rfl) sc_is_so (fun vs H Q E h => ?_) (fun f cdv A' outer s H vs Q E hr h => ?_)
  · obtain ⟨b, c, s, k, av, n, m, x0, x, rfl, _⟩ := h
    rfl
  · obtain ⟨b, c, s, k, av, n, m, x0, x, rfl, bx, hk, g, hm, q⟩ := h
    have nd := sc_is_so.nd
    have hu := hu_of hr
    obtain ⟨gL, fdL, ML, bL, FL⟩ := D5.ex
    refine ⟨_, (pss_cons (ps_asg (pe_tup (pa_cons (pe_dget hu (pv 1) pe_str (fun _ _ => rfl)) (pa_cons (pe_dget hu (pv 1) pe_str (fun _ _ => rfl)) pa_nil))) (pg_tup rfl (pgs_cons (pg_name (i := 2) nd rfl (.inr rfl)) (pgs_cons (pg_name (i := 3) nd rfl (.inr rfl)) pgs_nil)))) (pss_cons (ps_if (PW.pt (pw_or (pt_cmpR (op_neD hr.units) (pe_dm0 (pv 0) T.cl D1 (hr.mono (by decide)) pass0) (pv 2) (nomark _)) (pw_or (pt_cmpR (op_neD hr.units) (pe_dm0 (pv 0) T.cl D2 (hr.mono (by decide)) pass0) (pv 3) (nomark _)) (pw_or1 (pt_cmpR op_ne (pe_callB (call_lenOwn FL ML.at_ ML.fn (hr.mono (by decide)) bL pass0) (by rfl) T.len (by decide +kernel) (pa_cons (pv 0) pa_nil)) (pe_len T.len (pv 3)) (nomark _)))))) (pss_one (ps_ret pe_bl)) pss_nil) (pss_cons (ps_if (pt_cmpR (op_neD hr.units) (pe_dm0 (pv 0) T.cl D3 hr pass0) (pe_callTy call_tuple_of (by rfl) T.tuple (by decide +kernel) (pa_cons (pe_lc (own := [("_law_at", 4)]) (g := gName 4) (by rfl) nd (pi_range1 (by rfl) T.range (pa_cons (pe_op op_sub (pe_len T.len (pv 3)) pe_int) pa_nil)) (blkOk_by (own := [("_law_at", 4)]) (N := ["_law_box", "_law_kept", "_law_lists_here", "_law_row", "_law_at"]) (sc := defScope s_L_is_so) (by decide +kernel)) (fun _ _ _ _ _ => pg_name (i := 4) nd rfl (Or.inl rfl)) (fun _ _ _ _ _ => (pts_one (pt_val (pe_df D6 (hr.mono (by decide)) pass0 (pa_cons (pv 2) (pa_cons (pv 3) (pa_cons (pv 4) pa_nil))))))) (fun _ _ _ _ _ => (pv 4))) pa_nil)) (nomark _)) (pss_one (ps_ret pe_bl)) pss_nil) (pss_cons (ps_expr (pe_bm PySem.F.plainAttrs_list PySem.F.slot_list_append PySem.F.type_list_append mt_append (pe_dm0 (pv 0) T.cl D4 (hr.mono (by decide)) pass0) (pa_cons pe_non pa_nil))) (pss_one (ps_ret (pe_cmpR (op_eqD hr.units) (pe_dm0 (pv 0) T.cl D4 (hr.mono (by decide)) pass0) (pe_dget hu (pv 1) pe_str (fun _ _ => rfl)) (nomark _)))))))), ?_⟩
    obtain ⟨dx, r, a, hb, hT, hI⟩ := bx.ob
    obtain ⟨r', a', pp, dd, ek, hT', hI', npa, nda, ⟨ss, es, ps⟩, ⟨cs, ec, pc⟩⟩ := hk.ob
    have n8 := g.n8
    have n1 := g.n1
    have few := g.few
    have nm1 := (lkN _ _ _ _ (by decide +kernel) (by decide +kernel) (by decide +kernel) (by decide +kernel) : (flds r a c s).lookup ("rankings" : Str) = none)
    have nm2 := (lkN _ _ _ _ (by decide +kernel) (by decide +kernel) (by decide +kernel) (by decide +kernel) : (flds r a c s).lookup ("arrangement" : Str) = none)
    have nm3 := (lkN _ _ _ _ (by decide +kernel) (by decide +kernel) (by decide +kernel) (by decide +kernel) : (flds r a c s).lookup ("allowed" : Str) = none)
    have nm4 := (lkN _ _ _ _ (by decide +kernel) (by decide +kernel) (by decide +kernel) (by decide +kernel) : (flds r a c s).lookup ("log" : Str) = none)
    refine ⟨_, rfl, k, _, rfl, dgetK (k := Sum.inr "lists") ek (kg_lists _ _ _ _), _, rfl, k, _, rfl, dgetK (k := Sum.inr "row") ek (kg_row _ _ _ _), by show 2 ≤ sizeLine; decide, fun t ht => ?_⟩
    have f1 : Frm [] H (upd H t (.tup [.ref r', .ref a'])) := frm_new ht
    have et : (upd H t (.tup [.ref r', .ref a'])) t = some (.tup [.ref r', .ref a']) := upd_same
    generalize upd H t (.tup [.ref r', .ref a']) = H1 at f1 et
    refine ⟨t, _, rfl, SqT.of et, rfl, _, _, rfl, _, _, rfl, rfl, ?_⟩
    have hb1 := f1.ins hb (fun z => nomatch z)
    have hT1 := hT.frm f1
    have hI1 := hI.frm f1
    have hTk := hT'.frm f1
    have hIk := hI'.frm f1
    refine ⟨_, rfl, b, dx, _, rfl, hb1, nm1, b, dx, r, a, c, s, rfl, hb1, _, rfl, dR x.R, dR x.R, dp_TT hT1, dp_TT hTk, (sh_dR _).shaped (by decide), (sh_dR _).shaped (by decide), _, rfl, iteN (dR_same _) ?_⟩
    refine ⟨_, rfl, b, dx, _, rfl, hb1, nm2, b, dx, r, a, c, s, rfl, hb1, _, rfl, dI x.A, dI x.A, dp_TI hI1, dp_TI hIk, (sh_dI _).shaped (by decide), (sh_dI _).shaped (by decide), _, rfl, iteN (dI_same _) ?_⟩
    refine ⟨_, rfl, b, dx, _, rfl, hb1, b, dx, r, a, c, s, x.R, rfl, hb1, hT1, x.R.length, rfl, by rw [g.lR]; omega, _, rfl, a', _, rfl, .inr hIk, rfl, _, rfl, ?_⟩
    have el : (x.A.map V.int).length = n := by rw [List.length_map]; exact g.lA
    refine iteN (by rw [el, g.lR]; simp) ?_
    refine ⟨_, rfl, b, dx, _, rfl, hb1, nm3, b, dx, r, a, c, s, n, x.ra, rfl, hb1, hT1, hI1, n1, n8, g.val, fun p H2 f2 hp => ?_⟩
    have f02 := f1.tr f2
    have hT2 := hTk.frm f2
    have hI2 := hIk.frm f2
    have eln : ((x.A.map V.int).length : Int) - 1 = ((n - 1 : Nat) : Int) := by rw [el]; omega
    refine ⟨_, rfl, a', _, rfl, .inr hI2, _, _, rfl, rfl, _, rfl, by omega, by rw [eln]; omega, fun D hD => ?_⟩
    rw [eln, Int.toNat_natCast]
    refine lc_range (lo := 0) (n := n - 1) (fun i H' => Frm [] H2 H' ∧ H' D = some (.lst (((List.range i).filter (may x.R x.A)).map fun j : Nat => V.int (j : Nat)))) ⟨frm_new hD, upd_same⟩ (fun i H' hi z => ?_) (fun H3 z => ?_)
    · obtain ⟨f3, g3⟩ := z
      refine ⟨rfl, _, rfl, _, rfl, _, rfl, r', a', n, i, x.ra, by rw [Int.zero_add]; rfl, hT2.frm f3, hI2.frm f3, g.val, by omega, _, rfl, ?_⟩
      have hl : (((List.range i).filter (may x.R x.A)).map fun j : Nat => V.int (j : Nat)).length < sizeLine := by
        rw [List.length_map]
        refine small1000 ?_
        have := List.length_filter_le (may x.R x.A) (List.range i)
        rw [List.length_range] at this
        omega
      refine iteB (fun hb => ?_) (fun hb => ?_)
      · have hb' : may x.R x.A i = true := hb
        refine ⟨_, rfl, _, g3, hl, f3.put (.inl hD) (pl_lst g3), ?_⟩
        rw [upd_same, List.range_succ, List.filter_append, List.map_append, Int.zero_add]
        simp [hb']
      · have hb' : may x.R x.A i = false := hb
        refine ⟨f3, ?_⟩
        rw [g3, List.range_succ, List.filter_append]
        simp [hb']
    obtain ⟨f3, g3⟩ := z
    have g3' : H3 D = some (.lst ((alI n x.R x.A).map V.int)) := by
      unfold alI allowed
      rw [g3, List.map_map]
      rfl
    refine ⟨D, _, rfl, .inl ⟨SqL.of g3', fun l hl => ?_⟩⟩
    have f4 : Frm [] H3 (upd H3 l (.tup ((alI n x.R x.A).map V.int))) := frm_new hl
    have hl4 : TI (upd H3 l (.tup ((alI n x.R x.A).map V.int))) l (alI n x.R x.A) := upd_same
    have f24 := f3.tr f4
    have f04 := f02.tr f24
    generalize upd H3 l (.tup ((alI n x.R x.A).map V.int)) = H4 at f4 hl4 f24 f04
    refine ⟨dI (alI n x.R x.A), dI (alI n x.R x.A), dp_TI (hp.frm f24), dp_TI hl4, (sh_dI _).shaped (by decide), (sh_dI _).shaped (by decide), _, rfl, iteN (dI_same _) ?_⟩
    have bx4 := bx.frm0 f04
    obtain ⟨dx4, r4, a4, hb4, _, _⟩ := bx4.ob
    obtain ⟨cs4, hc4, pc4⟩ := bx4.ch
    have nm5 : (flds r4 a4 c s).lookup ("log" : Str) = none := lkN _ _ _ _ (by decide +kernel) (by decide +kernel) (by decide +kernel) (by decide +kernel)
    have lcs : cs4.length ≤ m := by rw [pd_len pc4]; exact few
    refine ⟨_, rfl, b, dx4, _, rfl, hb4, nm5, b, dx4, r4, a4, c, s, cs4, rfl, hb4, hc4, fun p1 hp1 => ?_⟩
    have g5 : (upd H4 p1 (.lst cs4)) p1 = some (.lst cs4) := upd_same
    refine ⟨.inl ⟨rfl, _, SqL.of g5⟩, p1, _, _, rfl, rfl, g5, small1000 (by omega), ?_⟩
    have f5 : Frm [] H4 (upd (upd H4 p1 (.lst cs4)) p1 (.lst (cs4 ++ [.non]))) := (frm_new hp1).put (.inl hp1) (pl_lst g5)
    generalize upd (upd H4 p1 (.lst cs4)) p1 (.lst (cs4 ++ [.non])) = H5 at f5
    have hb5 := f5.ins hb4 (fun z => nomatch z)
    have hc5 := f5.lst hc4 (fun z => nomatch z)
    refine ⟨_, rfl, b, dx4, _, rfl, hb5, nm5, b, dx4, r4, a4, c, s, cs4, rfl, hb5, hc5, fun p2 hp2 => ?_⟩
    have f6 : Frm [] H5 (upd H5 p2 (.lst cs4)) := frm_new hp2
    have f46 := f5.tr f6
    have f06 := f04.tr f46
    have ek6 := f06.dk ek (fun z => nomatch z)
    refine ⟨_, rfl, k, _, rfl, dgetK (k := Sum.inr "deeds") ek6 (kg_deeds _ _ _ _), dDs x.deeds, dDs x.deeds, dp_deeds upd_same (pdD pc4 f46), dp_deeds (f06.lst ec (fun z => nomatch z)) (pdD pc f06), (sh_dDs _).shaped (by decide), (sh_dDs _).shaped (by decide), ?_⟩
    rw [Sh.refl (sh_dDs x.deeds)]
    exact q _ f06
end
end Sw
set_option maxHeartbeats 4000000
/-! Swaprow: what a row is equal to -/
namespace Sw
open PySem L2
section
variable {P : Program} {w : World} {K : PySem.W.Frag} {mg : Str → Option Value} {base : Heap} {A : Ad}
theorem sc_likes_right : FnScope ["_law_box", "_law_kept", "_law_lists_here", "_law_row", "_law_other_row", "_law_near"] ["_law_box", "_law_kept"] (defScope s_L_likes_right) := ⟨rfl, rfl, rfl, by decide +kernel, rfl, by decide +kernel, by decide +kernel⟩
theorem ok_likes_right (T : Tx K mg A) (D : DefAt K mg "_law_likes_right" s_L_likes_right) (D1 : RowInit P w K mg base 5 A.C ["self", "rankings", "arrangement"] "arrangement" (spInit A.C)) (DE : Dm P w K mg base CX0 2 A.C "__eq__" ["self", "other"] (spRowEq A.C)) (O : ∀ f, Meth K A.C "__eq__" f → OwnQ K A.C f)
    (D4 : Dm P w K mg base CX0 1 A.C "log" ["self"] (spRowLog A.C)) : Df P w K mg base CX0 8 "_law_likes_right" ["_law_box", "_law_kept"] (spLikesRight A) := by
  refine Df.of0 D (fun _ _ _ _ _ _ us hl => match us, hl with | [_, _], _ => rfl) sc_likes_right (fun vs H Q E h => ?_) (fun f cdv A' outer s H vs Q E hr h => ?_)
  · obtain ⟨b, c, s, k, av, n, m, x0, x, rfl, _⟩ := h
    rfl
  · obtain ⟨b, c, s, k, av, n, m, x0, x, rfl, bx, hk, g, q⟩ := h
    have nd := sc_likes_right.nd
    have hu := hu_of hr
    obtain ⟨gE, fdE, ME, bE, FE⟩ := DE.ex
    have OO := O gE ME
    have n8 := g.n8
    have n1 := g.n1
    refine ⟨_, (pss_cons (ps_par (i := 2) (j := 3) (by rfl) nd rfl rfl (by decide) rfl rfl (pa_cons (pe_dget hu (pv 1) pe_str (fun _ _ => rfl)) (pa_cons (pe_dget hu (pv 1) pe_str (fun _ _ => rfl)) pa_nil)) (by rfl)) (pss_cons (ps_set (i := 4) nd rfl (.inl rfl) (pe_rowK D1 (hr.mono (by decide)) T.mgC (pa_cons (pv 2) pa_nil) (pk_cons (pv 3) pk_nil))) (pss_cons (ps_if (PW.pt (pw_or (pt_cmpR (op_neOwn FE OO (hr.mono (by decide)) bE pass0) (pv 0) (pv 4) (nomark _)) (pw_or (pt_not (pt_cmpR (op_eqOwn FE OO (hr.mono (by decide)) bE pass0) (pv 4) (pv 0) (nomark _))) (pw_or1 (pt_cmpR (op_inOwn FE OO (hr.mono (by decide)) bE pass0) (pv 0) (pe_lst (pa_cons pe_non (pa_cons pe_int (pa_cons (pv 3) (pa_cons (pv 2) (pa_cons (pe_tup (pa_cons (pv 2) (pa_cons (pv 3) pa_nil))) pa_nil)))))) (by with_unfolding_all rfl)))))) (pss_one (ps_ret pe_bl)) pss_nil) (pss_cons (ps_if (pt_cmpR op_eq (pe_len T.len (pv 3)) pe_int (nomark _)) (pss_one (ps_ret pe_bl)) pss_nil) (pss_cons (ps_set (i := 5) nd rfl (.inl rfl) (pe_rowK D1 (hr.mono (by decide)) T.mgC (pa_cons (pe_op op_catE (pe_tup (pa_cons (pe_revF (pe_ix ix_tup (pv 2) pe_int (fun _ _ => rfl))) pa_nil)) (pe_slice sl_tupE (pv 2) (po_some pe_int) po_none)) pa_nil) (pk_cons (pv 3) pk_nil))) (pss_one (ps_ret (pe_and (pe_cmpR (op_neOwn FE OO (hr.mono (by decide)) bE pass0) (pe_rowK D1 (hr.mono (by decide)) T.mgC (pa_cons (pv 2) pa_nil) (pk_cons (pe_revT (pv 3)) pk_nil)) (pv 0) (nomark _)) (pe_and (pe_not (pe_cmpR (op_eqOwn FE OO (hr.mono (by decide)) bE pass0) (pv 5) (pv 0) (nomark _))) (pe_one (pe_cmpR (op_eqD hr.units) (pe_dm0 (pv 4) T.cl D4 (hr.mono (by decide)) pass0) (pe_lst pa_nil) (nomark _)))))))))))), ?_⟩
    obtain ⟨r', a', pp, dd, ek, hT', hI', _, _, _, _⟩ := hk.ob
    refine ⟨_, rfl, k, _, rfl, dgetK (k := Sum.inr "lists") ek (kg_lists _ _ _ _), _, rfl, k, _, rfl, dgetK (k := Sum.inr "row") ek (kg_row _ _ _ _), _, _, rfl, ?_⟩
    refine ⟨_, rfl, _, rfl, _, _, rfl, rfl, r', n, x.ra, rfl, hT', .inr ⟨a', rfl, hI'⟩, n1, n8, g.val, fun b1 c1 s1 H1 nb1 nc1 ns1 f1 bx1 => ?_⟩
    have eqT : ∀ (R : List (List Int)) (B : List Int), (decide (R = R) && decide (B = B)) = true := fun R B => by simp
    obtain ⟨dx, r, a, hb, hT, hI⟩ := (bx.frm0 f1).ob
    obtain ⟨dx1, r1, a1, hb1, hT1, hI1⟩ := bx1.ob
    refine ⟨_, rfl, _, rfl, b, b1, dx, dx1, _, _, rfl, rfl, hb, hb1, ⟨b, dx, r, a, c, s, x.ra, _, rfl, hb, hT, hI, .inr ⟨b1, dx1, r1, a1, c1, s1, x.ra, rfl, hb1, hT1, hI1, _, rfl, _, rfl, ?_⟩⟩⟩
    refine iteN (by rw [eqT]; simp) ?_
    refine ⟨_, rfl, _, rfl, b1, b, dx1, dx, _, _, rfl, rfl, hb1, hb, ⟨b1, dx1, r1, a1, c1, s1, x.ra, _, rfl, hb1, hT1, hI1, .inr ⟨b, dx, r, a, c, s, x.ra, rfl, hb, hT, hI, _, rfl, _, rfl, ?_⟩⟩⟩
    refine iteN (by rw [if_neg (by simp), eqT]; simp) ?_
    refine ⟨_, rfl, _, rfl, _, rfl, _, rfl, _, rfl, by show 2 ≤ sizeLine; decide, fun t ht => ⟨by show 5 ≤ sizeLine; decide, fun l hl => ?_⟩⟩
    have f2 : Frm [] H1 (upd H1 t (.tup [.ref r', .ref a'])) := frm_new ht
    have et2 : (upd H1 t (.tup [.ref r', .ref a'])) t = some (.tup [.ref r', .ref a']) := upd_same
    generalize upd H1 t (.tup [.ref r', .ref a']) = H2 at f2 et2 hl
    have f3 : Frm [] H2 (upd H2 l (.lst [.non, .int 5, .ref a', .ref r', .ref t])) := frm_new hl
    have gl : (upd H2 l (.lst [.non, .int 5, .ref a', .ref r', .ref t])) l = some (.lst [.non, .int 5, .ref a', .ref r', .ref t]) := upd_same
    have et3 := f3.tp _ _ et2
    generalize upd H2 l (.lst [.non, .int 5, .ref a', .ref r', .ref t]) = H3 at f3 gl et3
    have f13 := f2.tr f3
    have f03 := f1.tr f13
    obtain ⟨qs, e', _⟩ := (hT'.frm f03)
    have hb3 := f13.ins hb (fun z => nomatch z)
    refine ⟨b, l, [.non, .int 5, .ref a', .ref r', .ref t], fun H' => H' = H3, rfl, rfl, rfl, fun H' e => ?_, fun H' e => ?_⟩
    · subst e
      refine ⟨gl, ⟨_, _, hb3⟩, fun y hy => ?_⟩
      have key : ItK H' y → ItK H' y ∧ spRowEq A.C [.ref b, y] H' (fun v H2 => v = .bl false ∧ H2 = H') E0 := fun z => ⟨z, b, dx, r, a, c, s, x.ra, y, rfl, hb3, hT.frm f13, hI.frm f13, .inl ⟨z, rfl, rfl⟩⟩
      refine key ?_
      simp only [List.mem_cons, List.not_mem_nil, or_false] at hy
      rcases hy with rfl | rfl | rfl | rfl | rfl
      · exact .inl rfl
      · exact .inr (.inl ⟨_, rfl⟩)
      · exact .inr (.inr ⟨_, _, rfl, hI'.frm f03⟩)
      · exact .inr (.inr ⟨_, _, rfl, e'⟩)
      · exact .inr (.inr ⟨_, _, rfl, et3⟩)
    subst e
    refine ⟨_, rfl, iteN (by simp) ?_⟩
    have hIk := hI'.frm f03
    have el : (x.A.map V.int).length = n := by rw [List.length_map]; exact g.lA
    refine ⟨_, rfl, a', _, rfl, .inr hIk, rfl, _, rfl, ?_⟩
    rw [el]
    by_cases hn : n = 1
    · exact iteP (by rw [hn]; simp) (q _ f03)
    refine iteN (fun z => hn (by have := V.int.inj (of_decide_eq_true z); omega)) ?_
    have n2 : 2 ≤ n := by omega
    obtain ⟨qs, e3, pd3⟩ := hT'.frm f03
    have lq : qs.length = n := (pd_len pd3).trans g.lR
    obtain ⟨l0, hR0, hRc⟩ : ∃ l0, x.R[0]? = some l0 ∧ x.R = l0 :: x.R.drop 1 := by
      have h0 : x.R.length = n := g.lR
      generalize x.R = R at h0
      cases R with
      | nil => simp at h0; omega
      | cons l0 tl => exact ⟨l0, rfl, rfl⟩
    have hpm := g.val.pR _ (List.mem_of_getElem? hR0)
    obtain ⟨w0, hw0, wa, rfl, tfw⟩ := pd_get pd3 hR0
    refine ⟨_, rfl, r', _, _, _, rfl, rfl, SqT.of e3, at_of (j := 0) rfl hw0, wa, _, rfl, tfw.rd, fun p1 H4 hp1 f4 t4 => ⟨by show 1 ≤ sizeLine; decide, fun p2 hp2 => ?_⟩⟩
    have tf4 : TF H4 p1 l0.reverse := by unfold TF; rw [List.map_reverse]; exact t4
    have f5 : Frm [] H4 (upd H4 p2 (.tup [.ref p1])) := frm_new hp2
    have e5 : (upd H4 p2 (.tup [.ref p1])) p2 = some (.tup [.ref p1]) := upd_same
    have tf5 := tf4.frm f5
    have f35 := f4.tr f5
    generalize upd H4 p2 (.tup [.ref p1]) = H5 at f5 e5 tf5 f35
    refine ⟨_, rfl, 1, rfl, r', _, rfl, f35.tp _ _ e3, fun p3 H6 f6 g6 => ?_⟩
    rw [show (1 : Int) = ((1 : Nat) : Int) from rfl, cut_drop] at g6
    refine ⟨p2, p3, _, _, rfl, rfl, f6.tp _ _ e5, g6, by rw [List.length_drop, lq]; simp; omega, fun p4 H7 f7 g7 => ?_⟩
    have f37 := f35.tr (f6.tr f7)
    have f07 := f03.tr f37
    have hT7 : TT H7 p4 (l0.reverse :: x.R.drop 1) := ⟨_, g7, .cons ⟨p1, rfl, tf5.frm (f6.tr f7)⟩ (pd_drop 1 (Paired.mapP pd3 fun _ _ z => z.frm f37))⟩
    have hv : Val n (l0.reverse :: x.R.drop 1, x.A) := ⟨by rw [List.length_cons, List.length_drop, g.lR]; omega, fun ms hms => by
      rcases List.mem_cons.mp hms with h | h
      · rw [h]; exact hpm.perm (List.reverse_perm _)
      · exact g.val.pR _ (List.mem_of_mem_drop h), g.val.pA⟩
    have hRne : ¬ (l0.reverse :: x.R.drop 1) = x.R := fun e => by
      rw [hRc] at e
      injection e with e1 _
      exact rev_ne hpm.2.1 (by rw [hpm.1]; exact n2) (by simpa using e1)
    refine ⟨_, rfl, _, _, rfl, rfl, p4, n, (l0.reverse :: x.R.drop 1, x.A), rfl, hT7, .inr ⟨a', rfl, hIk.frm f37⟩, n1, n8, hv, fun b8 c8 s8 H8 nb8 nc8 ns8 f8 bx8 => ?_⟩
    have f08 := f07.tr f8
    have hIk8 := hI'.frm f08
    refine ⟨_, rfl, _, rfl, a', _, rfl, hIk8, fun p5 hp5 => ?_⟩
    have f9 : Frm [] H8 (upd H8 p5 (.tup (x.A.map V.int).reverse)) := frm_new hp5
    have hI9 : TI (upd H8 p5 (.tup (x.A.map V.int).reverse)) p5 x.A.reverse := by unfold TI; rw [upd_same, List.map_reverse]
    generalize upd H8 p5 (.tup (x.A.map V.int).reverse) = H9 at f9 hI9
    have f09 := f08.tr f9
    refine ⟨_, _, rfl, rfl, r', n, (x.R, x.A.reverse), rfl, hT'.frm f09, .inr ⟨p5, rfl, hI9⟩, n1, n8, ⟨g.lR, g.val.pR, g.val.pA.perm (List.reverse_perm _)⟩, fun b10 c10 s10 H10 nb10 nc10 ns10 f10 bx10 => ?_⟩
    have f010 := f09.tr f10
    obtain ⟨dxA, rA, aA, hbA, hTA, hIA⟩ := bx10.ob
    have bxX := bx.frm0 f010
    obtain ⟨dxX, rX, aX, hbX, hTX, hIX⟩ := bxX.ob
    have hAne : ¬ x.A.reverse = x.A := rev_ne g.val.pA.2.1 (by rw [g.lA]; exact n2)
    refine ⟨_, rfl, b10, b, dxA, dxX, _, _, rfl, rfl, hbA, hbX, ⟨b10, dxA, rA, aA, c10, s10, (x.R, x.A.reverse), _, rfl, hbA, hTA, hIA, .inr ⟨b, dxX, rX, aX, c, s, x.ra, rfl, hbX, hTX, hIX, _, rfl, _, rfl, ?_⟩⟩⟩
    refine iteP (by rw [if_pos rfl, show decide ((x.R, x.A.reverse).2 = x.ra.2) = false from decide_eq_false hAne]; simp) ?_
    have bxB := bx8.frm0 (f9.tr f10)
    obtain ⟨dxB, rB, aB, hbB, hTB, hIB⟩ := bxB.ob
    refine ⟨_, rfl, _, rfl, b8, b, dxB, dxX, _, _, rfl, rfl, hbB, hbX, ⟨b8, dxB, rB, aB, c8, s8, (l0.reverse :: x.R.drop 1, x.A), _, rfl, hbB, hTB, hIB, .inr ⟨b, dxX, rX, aX, c, s, x.ra, rfl, hbX, hTX, hIX, _, rfl, _, rfl, _, rfl, ?_⟩⟩⟩
    refine iteP (by rw [if_neg (by simp), show decide ((l0.reverse :: x.R.drop 1, x.A).1 = x.ra.1) = false from decide_eq_false hRne]; simp) ?_
    have bxO := bx1.frm0 (f13.tr (f37.tr (f8.tr (f9.tr f10))))
    obtain ⟨dxO, rO, aO, hbO, _, _⟩ := bxO.ob
    obtain ⟨csO, hcO, pcO⟩ := bxO.ch
    have nmO : (flds rO aO c1 s1).lookup ("log" : Str) = none := lkN _ _ _ _ (by decide +kernel) (by decide +kernel) (by decide +kernel) (by decide +kernel)
    refine ⟨_, rfl, b1, dxO, _, rfl, hbO, nmO, b1, dxO, rO, aO, c1, s1, csO, rfl, hbO, hcO, fun p6 hp6 => ⟨by show 0 ≤ sizeLine; decide, fun l2 hl2 => ?_⟩⟩
    have f11 : Frm [] H10 (upd H10 p6 (.lst csO)) := frm_new hp6
    have g11 : (upd H10 p6 (.lst csO)) p6 = some (.lst csO) := upd_same
    generalize upd H10 p6 (.lst csO) = H11 at f11 g11 hl2
    have f12 : Frm [] H11 (upd H11 l2 (.lst [])) := frm_new hl2
    refine ⟨dDs [], .list [], dp_deeds (ds := []) (f12.lst g11 (fun z => nomatch z)) (pdD pcO (f11.tr f12)), .lst (SqL.of upd_same) .nil, (sh_dDs _).shaped (by decide), sh_nil.shaped (by decide), ?_⟩
    rw [list_nil_eqv]
    exact q _ (f010.tr (f11.tr f12))
end
end Sw
set_option maxHeartbeats 4000000
/-! Swaprow: many undone -/
namespace L2
open PySem PySem.Spec PyProof.Rows
def rLstOf (K : PySem.W.Frag) : List V → Hp → VK → Prop := fun xs H Q => ∃ p ys, xs = [.ref p] ∧ (SqL K H p ys ∨ SqT K H p ys) ∧ ∀ l, H l = none → Q (.ref l) (upd H l (.lst ys))
theorem call_listK {X : Cx} : CallR X (.type "list") (rLstOf X.K) := call_list_of
/-- a def whose code object is at c -/
structure DefC (K : PySem.W.Frag) (mg : Str → Option Value) (x : Str) (st : Stmt) (c : Addr) : Prop where
  ex : ∃ (f : Addr) (fd : FuncData), FunD K x x (defArgs st) (defBody st) (defScope st) [] [] f fd ∧ mg x = some (.ref f) ∧ fd.code = .ref c
section
variable {P : Program} {w : World} {K : PySem.W.Frag} {mg : Str → Option Value} {base : Heap} {N ps : List Str} {k : Nat} {sp : Sp} {x : Str} {st : Stmt} {f c : Addr} {fd : FuncData}
theorem okC0 (F : FunD K x x (defArgs st) (defBody st) (defScope st) [] [] f fd) (hc : fd.code = .ref c) (S : FnScope N ps (defScope st)) (len : ∀ vs H Q E, sp vs H Q E → vs.length = ps.length)
    (hbody : ∀ (A : Around) (outer : List Env) (s : Shared) (H : Hp) (vs : List V) (Q : VK) (E : XK), Room k (A.deeper (envOfC x (defScope st) s.heap.objs.size f (.ref c))) → sp vs H Q E →
      ∃ t, PSs (cxOf CX0 P w K mg base N x (defScope st) f (.ref c) A outer s H E).nox (defBody st) t ∧ t { nx := fun _ H' => Q .non H', rt := Q } (start N vs) H) : FnOk P w K mg base CX0 (k + 1) f fd ps sp := by
  obtain ⟨oc, od, dV, kV, doc, pm, an, cdv, ct, osl, rfl, lk, hcd, _, _⟩ := F.ex
  obtain rfl : cdv = .ref c := hc
  exact fn_of lk hcd S len fun A outer s H vs Q E hr hsp => let ⟨t, a, b⟩ := hbody A outer s H vs Q E hr hsp; ⟨t, a.nox, b⟩
end
end L2
namespace Sw
open PySem L2
theorem frm_ext {T : List (Addr × Str)} {H H1 : Hp} (hT : T ≠ []) (e : LamX.ExtN H H1) (t : LamX.Tabs T H1) : FrmT (fun S => S = T) [] H H1 :=
  ⟨fun b o h _ n => e b o h n, fun b xs h => e b _ h (fun _ z => nomatch z), fun b o u h => e b _ h (fun _ z => nomatch z), fun z => absurd z.symm hT, fun S z _ => z ▸ t⟩
/-- _law_told(lambda: ..) -/
theorem pe_told {X : Cx} {A : Ad} {T : List (Addr × Str)} {c P : Addr} {k : Nat} {params : Arguments} {body : Expr} {scope : Scope} {t : XK → TE} {p lpos pos : Pos} (TX : Tx X.K X.mg A) (Dt : DefAt X.K X.mg "_law_told" s_L_told) (DC : Df X.prog X.w X.K X.mg X.base CX0 1 "_law_class" ["_law_error_here"] (spClass A))
    (TB : LamX.TabB X.base X.mg c P) (hmT : (P, X.env.qual ++ "<lambda>") ∈ T) (hu : ∀ p ∈ T, p.1 = P → p.2 = X.env.qual ++ "<lambda>") (hr : Room (k + 2) X.A) (hcode : X.env.code = .ref c)
    (hbody : ∀ (A : Around) (outer : List Env) (s : Shared) (H : Hp) (E : XK) (f c' : Addr), Room k (A.deeper (LamX.lamEnv X scope s.heap.objs.size f c')) → PE (LamX.lamCx X A outer s H E scope f c') body (t E))
    (hg : Gl X "_law_told") (L : LamX.LamS X.env.scope scope) (hdef : defaultsOf params X.env = ([], []))
    (hbind : ∀ (q : Str) (cl : List (Str × Addr)) (pm cv ctv : Value), bindArgs (PySem.W.kla_fn "<lambda>" q params body scope cl pm cv ctv) ⟨[], []⟩ = pure []) :
    PE X (.Call (.Name "_law_told" p) [.Lambda params body scope lpos] [] pos) (LamX.tLam T (TTs X.K A) t) := by
  obtain ⟨g, fd, F, hm⟩ := Dt.ex
  obtain ⟨oc, od, dV, kV, doc, pm, an, cdv, ct, osl, rfl, lk, hcd, _, _⟩ := F.ex
  have b := F.bindsN (ps := ["_law_deed"]) (fun _ _ _ _ _ _ us hl => match us, hl with | [_], _ => rfl)
  exact LamX.pe_lamcall hg hm F.kp lk hcd b sc_told rfl (.inl rfl) (told_gives TX DC (hr.mono (by omega))) TB hcode hmT hu hr L hdef hbind hbody
/-- the lambda's qualified name -/
abbrev qMany : Str := (PyProof.Rows.envOfC "_law_many_undone" (defScope s_L_many_undone) 0 0 .none).qual ++ "<lambda>"
def spMany2 (T : List (Addr × Str)) : Sp := fun vs H Q _ => ∃ (M : Mm) (bd n : Nat) (r : Addr) (R : List (List Int)), vs = [.ref M.dm, .ref r] ∧ MAt H M bd ∧ bd + 1000 ≤ 2 ^ 40 ∧ TT H r R ∧ 1 ≤ n ∧ n ≤ 8 ∧ R.length = n ∧ (∀ ns ∈ R, PermN ns n) ∧ LamX.Tabs T H ∧
  ∀ H', LamX.Tabs T H' → MAt H' M (bd + 1000) → Q (.bl true) H'
theorem sh_nothing {k : Nat} : Sh (k + 1) (.str "nothing") := ⟨by decide +kernel, by simp [PyData.depth]⟩
section
variable {P : Program} {w : World} {K : PySem.W.Frag} {mg : Str → Option Value} {base : Heap} {A : Ad}
theorem sc_many : FnScope ["_law_m", "_law_lists_here", "_law_who", "_law_n", "_law_ranked", "_law_box", "_law_k"] ["_law_m", "_law_lists_here"] (defScope s_L_many_undone) := ⟨rfl, rfl, rfl, by decide +kernel, rfl, by decide +kernel, by decide +kernel⟩
theorem ok_many {TL : List (Addr × Str)} {f c Pt : Addr} {fd : FuncData} (T : Tx K mg A) (F : FunD K "_law_many_undone" "_law_many_undone" (defArgs s_L_many_undone) (defBody s_L_many_undone) (defScope s_L_many_undone) [] [] f fd) (hcd : fd.code = .ref c)
    (TB : LamX.TabB base mg c Pt) (hmT : (Pt, qMany) ∈ TL) (hu : ∀ p ∈ TL, p.1 = Pt → p.2 = qMany)
    (D1 : RowInit P w K mg base 5 A.C ["self", "rankings", "arrangement"] "arrangement" (spInit A.C)) (D2 : Df P w K mg base CX0 2 "_law_draw" ["_law_m", "_law_top"] spDraw) (D3 : Df P w K mg base CX0 3 "_law_mixed_up" ["_law_m", "_law_things"] spMixedUp)
    (DR : Dm P w K mg base (L2.CX P w) 4 A.C "rerank" ["self", "person", "ranking"] (spRowRerank A)) (DU : Dm P w K mg base (L2.CX P w) 3 A.C "undo" ["self"] (spRowUndo A)) (D4 : Dm P w K mg base CX0 1 A.C "log" ["self"] (spRowLog A.C)) (D5 : Dm P w K mg base CX0 1 A.C "rankings" ["self"] (spRankings A.C))
    (Dt : DefAt K mg "_law_told" s_L_told) (DC : Df P w K mg base CX0 1 "_law_class" ["_law_error_here"] (spClass A)) : FnOk P w K mg base CX0 7 f fd ["_law_m", "_law_lists_here"] (spMany2 TL) := by
  refine okC0 F hcd sc_many (fun vs H Q E h => ?_) (fun A' outer s H vs Q E hr h => ?_)
  · obtain ⟨M, bd, n, r, R, rfl, _⟩ := h
    rfl
  · obtain ⟨M, bd, n, r, R, rfl, m, hbd, hT, n1, n8, hlR, hpR, hTb, q⟩ := h
    have nd := sc_many.nd
    refine ⟨_, (pss_cons (ps_asg (pe_tup (pa_cons (pe_row1 D1 hr T.mgC (pa_cons (pv 1) pa_nil)) (pa_cons (pe_df D2 (hr.mono (by decide)) pass0 (pa_cons (pv 0) (pa_cons (pe_len T.len (pv 1)) pa_nil))) pa_nil))) (pg_tup rfl (pgs_cons (pg_name (i := 5) nd rfl (.inr rfl)) (pgs_cons (pg_name (i := 2) nd rfl (.inr rfl)) pgs_nil)))) (pss_cons (ps_set (i := 4) nd rfl (.inr rfl) (pe_lc (own := [("_law_n", 3)]) (g := gName 3) (tt := tYes) (by rfl) nd (pi_range1 (by rfl) T.range (pa_cons pe_int pa_nil)) (blkOk_by (own := [("_law_n", 3)]) (N := ["_law_m", "_law_lists_here", "_law_who", "_law_n", "_law_ranked", "_law_box", "_law_k"]) (sc := defScope s_L_many_undone) (by decide +kernel)) (fun _ _ _ _ _ => pg_name (i := 3) nd rfl (Or.inl rfl)) (fun _ _ _ _ _ => pts_nil) (fun _ _ _ _ _ => (pe_callTy call_tupleF (by rfl) T.tuple (by decide +kernel) (pa_cons (pe_df D3 (hr.mono (by decide)) pass0 (pa_cons (pv 0) (pa_cons (pe_callTy (show CallR _ (.type "list") (rLstOf K) from call_listK) (by rfl) T.list (by decide +kernel) (pa_cons (pe_ix (show IxR _ (rIxT K) from ix_tup) (pv 1) (pv 2) (fun _ _ => rfl)) pa_nil)) pa_nil))) pa_nil))))) (pss_cons (ps_for PassesOwn.never rfl (pi_range1 (by rfl) T.range (pa_cons pe_int pa_nil)) (pg_name (i := 3) nd rfl (.inl rfl)) (pss_one (ps_expr (pe_dm (pv 5) T.cl DR (hr.mono (by decide)) passL (pa_cons (pv 2) (pa_cons (pe_ix ix_list (pv 4) (pe_op op_mod (pv 3) pe_int) (fun _ _ => rfl)) pa_nil)))))) (pss_cons (ps_for PassesOwn.never rfl (pi_range3 (by rfl) T.range (pa_cons pe_int (pa_cons (pe_un un_neg pe_int) (pa_cons (pe_un un_neg pe_int) pa_nil)))) (pg_name (i := 3) nd rfl (.inl rfl)) (pss_cons (ps_if (pt_cmpR (op_neD hr.units) (pe_dm0 (pv 5) T.cl D4 (hr.mono (by decide)) pass0) (pe_lc (own := [("_law_k", 6)]) (g := gName 6) (tt := tYes) (by rfl) nd (pi_range1 (by rfl) T.range (pa_cons (pe_op op_add (pv 3) pe_int) pa_nil)) (blkOk_by (own := [("_law_k", 6)]) (N := ["_law_m", "_law_lists_here", "_law_who", "_law_n", "_law_ranked", "_law_box", "_law_k"]) (sc := defScope s_L_many_undone) (by decide +kernel)) (fun _ _ _ _ _ => pg_name (i := 6) nd rfl (Or.inl rfl)) (fun _ _ _ _ _ => pts_nil) (fun _ _ _ _ _ => (pe_tup (pa_cons pe_str (pa_cons (pv 2) (pa_cons (pe_ix (show IxR _ (rIxL K) from ix_list) (pv 4) (pe_op op_mod (pv 6) pe_int) (fun _ _ => rfl)) pa_nil)))))) (nomark _)) (pss_one (ps_ret pe_bl)) pss_nil) (pss_one (ps_expr (pe_dm0 (pv 5) T.cl DU (hr.mono (by decide)) passL))))) (pss_one (ps_ret (pe_and (pe_cmpR (op_eqD hr.units) (pe_dm0 (pv 5) T.cl D5 (hr.mono (by decide)) pass0) (pv 1) (nomark _)) (pe_one (pe_cmpR (op_eqD hr.units) (pe_told (t := fun E => tMeth A.C "undo" (spRowUndo A) [] E (tVar 5) tNil) T Dt DC TB hmT hu (hr.mono (by decide)) rfl (fun A' outer s H E f c' hr' => pe_dm0 (pv 5) T.cl DU hr' (passes_call (takes_of rfl rfl rfl rfl) (fun _ _ _ _ h => h))) (by rfl) (LamX.lamS_by (sc := defScope s_L_many_undone) (by decide +kernel)) rfl (fun _ _ _ _ _ => rfl)) (pe_tup (pa_cons pe_str pa_nil)) (nomark _)))))))))), ?_⟩
    have hTL : TL ≠ [] := fun e => by rw [e] at hmT; cases hmT
    have vx : Val n (R, rng n) := ⟨hlR, hpR, permN_rng n⟩
    obtain ⟨ps, e, el, _⟩ := hT.at
    have eln : ps.length = n := el.trans hlR
    refine ⟨_, rfl, _, rfl, r, n, (R, rng n), rfl, hT, .inl ⟨rfl, rfl⟩, n1, by omega, vx, fun b c' s' H1 nb nc ns f1 bx1 => ?_⟩
    have m1 := m.frm0 f1
    refine ⟨_, rfl, _, rfl, r, ps, rfl, .inr (f1.tp _ _ e), M, bd, n, by rw [eln]; rfl, m1, by omega, by omega, by omega, fun who H2 hwho f2 m2 => ⟨by show 2 ≤ sizeLine; decide, fun t ht => ?_⟩⟩
    have f3 : Frm [] H2 (upd H2 t (.tup [.ref b, .int who])) := frm_new ht
    have et : (upd H2 t (.tup [.ref b, .int who])) t = some (.tup [.ref b, .int who]) := upd_same
    generalize upd H2 t (.tup [.ref b, .int who]) = H3 at f3 et
    refine ⟨t, _, rfl, SqT.of et, rfl, _, _, rfl, _, _, rfl, rfl, ?_⟩
    have bx3 := (bx1.frm f2 (m.nofs nb) (m.nofs nc) (m.nofs ns)).frm0 f3
    have m3 := m2.frm0 f3
    have f03 : Frm M.fs H H3 := (f1.mono0.tr f2).tr0 f3
    have hR0 : who < R.length := by omega
    have hRw := List.getElem?_eq_getElem hR0
    have hpw := hpR _ (List.mem_of_getElem? hRw)
    generalize R[who] = ns0 at hRw hpw
    have g0 : Good n 0 (R, rng n) (Box.new (R, rng n)) := good_new n1 (by omega) vx
    -- the three rankings
    refine ⟨3, rfl, by decide, by decide, fun D hD => lc_range (lo := 0) (n := 3) (fun j H' => Frm M.fs H3 H' ∧ MAt H' M (bd + 1 + 101 * j) ∧ ∃ (rs : List V) (Rk : List (List Int)), H' D = some (.lst rs) ∧ Paired (TIv H') rs Rk ∧ Rk.length = j ∧ ∀ z ∈ Rk, PermN z n) ?_ (fun j H4 hj z => ?_) (fun H4 z => ?_)⟩
    · exact ⟨frm_new hD, m3.puts m (f03.tk _ hD), [], [], upd_same, .nil, rfl, fun _ z => nomatch z⟩
    · obtain ⟨f4, m4, rs, Rk, gD, pd, lk, hk⟩ := z
      obtain ⟨qs, e4, pd4⟩ := ((hT.frm f03).frm f4)
      obtain ⟨w0, hw0, wa, rfl, tfw⟩ := pd_get pd4 hRw
      have zD : H D = none := f03.tk _ hD
      refine ⟨rfl, _, rfl, _, rfl, _, rfl, r, _, _, _, rfl, rfl, SqT.of e4, atI_nat hw0, wa, _, rfl, .inr tfw.sq, fun l hl => ?_⟩
      have f5 : Frm [] H4 (upd H4 l (.lst (ns0.map V.int))) := frm_new hl
      refine ⟨M, _, l, ns0, rfl, m4.frm0 f5, by omega, upd_same, by rw [hpw.1]; omega, fun ys p H5 hpm hp gp f6 m6 => ?_⟩
      refine ⟨p, _, rfl, gp, fun t1 H6 ht1 f7 tf7 => ?_⟩
      have f46 : Frm M.fs H4 H6 := (f5.mono0.tr f6).tr0 f7
      have gD6 := f46.lst gD (m.nofs zD)
      have m7 := m6.frm0 f7
      refine ⟨rs, gD6, by rw [pd_len pd]; exact small1000 (by omega), (f4.tr f46).put (.inl hD) (pl_lst gD6), (m7.puts m zD).mono (by omega), rs ++ [.ref t1], Rk ++ [ys], upd_same, ?_, by rw [List.length_append, lk]; rfl, fun z hz => ?_⟩
      · have gg : Frm [D] H6 (upd H6 D (.lst (rs ++ [.ref t1]))) := (FrmT.refl H6).put (.inr (by simp)) (pl_lst gD6)
        exact pd_app (Paired.mapP pd fun _ _ z => (z.frm f46).frm gg) (.cons ⟨t1, rfl, TF.frm (ns := ys) tf7 gg⟩ .nil)
      · rcases List.mem_append.mp hz with h | h
        · exact hk z h
        · rw [List.mem_singleton.mp h]; exact hpw.perm hpm
    obtain ⟨f4, m4, rs, Rk, gD, pd, lk, hk⟩ := z
    have zD : H D = none := f03.tk _ hD
    have bx4 := bx3.frm f4 (m.nofs nb) (m.nofs nc) (m.nofs ns)
    have nDb : ∀ z ∈ [b, c', s'], D ≠ z ∧ M.dm ≠ z ∧ M.cl ≠ z ∧ M.g ≠ z := fun z hz => by
      have hz0 : H3 z ≠ none ∧ H z = none := by
        obtain ⟨t1, t2, t3⟩ := bx3.tr
        simp only [List.mem_cons, List.not_mem_nil, or_false] at hz
        rcases hz with rfl | rfl | rfl
        · exact ⟨t1, nb⟩
        · exact ⟨t2, nc⟩
        · exact ⟨t3, ns⟩
      exact ⟨fun e => hz0.1 (e ▸ hD), m.outs hz0.2⟩
    have hTb4 : LamX.Tabs TL H4 := (f03.tr f4).tb TL True.intro hTb
    have hT4 := (hT.frm f03).frm f4
    have zfs : Frm M.fs H H4 := f03.tr f4
    -- what stays
    have keep : ∀ {G G' : Hp} {fs : List Addr}, (∀ z ∈ fs, z ∈ [b, c', s']) → Frm fs G G' → (MAt G M (bd + 1000) ∧ G D = some (.lst rs) ∧ Paired (TIv G) rs Rk ∧ LamX.Tabs TL G ∧ TT G r R) → (MAt G' M (bd + 1000) ∧ G' D = some (.lst rs) ∧ Paired (TIv G') rs Rk ∧ LamX.Tabs TL G' ∧ TT G' r R) := fun {G G' fs} hfs f z =>
      ⟨z.1.frm f (fun h => (nDb _ (hfs _ h)).2.1 rfl) (fun h => (nDb _ (hfs _ h)).2.2.1 rfl) (fun h => (nDb _ (hfs _ h)).2.2.2 rfl), f.lst z.2.1 (fun h => (nDb _ (hfs _ h)).1 rfl), Paired.mapP z.2.2.1 fun _ _ y => y.frm f, f.tb TL True.intro z.2.2.2.1, z.2.2.2.2.frm f⟩
    have k4 : MAt H4 M (bd + 1000) ∧ H4 D = some (.lst rs) ∧ Paired (TIv H4) rs Rk ∧ LamX.Tabs TL H4 ∧ TT H4 r R := ⟨m4.mono (by omega), gD, pd, hTb4, hT4⟩
    have all3 : ∀ z ∈ [b, c', s'], z ∈ [b, c', s'] := fun _ h => h
    have Dd : Nat → Deed := fun j => .rerank who (Rk.getD (j % 3) [])
    generalize hDd : (fun j : Nat => Deed.rerank who (Rk.getD (j % 3) [])) = Dd'
    have hDj : ∀ j, Dd' j = .rerank who (Rk.getD (j % 3) []) := fun j => by rw [← hDd]
    have rkat : ∀ (G : Hp) (j : Nat), Paired (TIv G) rs Rk → ∃ wa, rs[j % 3]? = some (.ref wa) ∧ TF G wa (Rk.getD (j % 3) []) ∧ PermN (Rk.getD (j % 3) []) n := fun G j p => by
      have hj : j % 3 < Rk.length := by omega
      have hx := List.getElem?_eq_getElem hj
      obtain ⟨v, hv, wa, rfl, tf⟩ := pd_get p hx
      rw [getD_R hx]
      exact ⟨wa, hv, tf, hk _ (List.getElem_mem hj)⟩
    -- 150 reranks
    refine ⟨150, rfl, by decide, by decide, for_range (lo := 0) (n := 150) (fun i σ H' => ∃ (u3 : Option V) (x : Box), σ = [some (.ref M.dm), some (.ref r), some (.int who), u3, some (.ref D), some (.ref b), none] ∧ BoxAt A.C H' b c' s' x ∧ Good n i (R, rng n) x ∧ x.deeds = (List.range i).map Dd' ∧ (MAt H' M (bd + 1000) ∧ H' D = some (.lst rs) ∧ Paired (TIv H') rs Rk ∧ LamX.Tabs TL H' ∧ TT H' r R))
      ⟨none, _, rfl, bx4, g0, rfl, k4⟩ (fun i σ H5 hi z => ?_) (fun σ H5 z => ?_)⟩
    · obtain ⟨u3, x, rfl, bx, g, hd, kk⟩ := z
      obtain ⟨dx, ra, aa, hb, _, _⟩ := bx.ob
      obtain ⟨wa, hwa, tf, hpk⟩ := rkat H5 i kk.2.2.1
      have nmR : (flds ra aa c' s').lookup ("rerank" : Str) = none := lkN _ _ _ _ (by decide +kernel) (by decide +kernel) (by decide +kernel) (by decide +kernel)
      have ei : (0 + ((i : Nat) : Int)) % 3 = ((i % 3 : Nat) : Int) := by omega
      have hpo : personOf n (.int (who : Nat)) = some who := by
        have := personOf_yes (n := n) (z := (who : Int)) (by show (decide ((0 : Int) ≤ who) && decide ((who : Int) < n)) = true; simp; omega)
        rw [Int.toNat_natCast] at this
        exact this
      have hrk : RkArg H5 n (.ref wa) (some (Rk.getD (i % 3) [])) := by
        have := RkArg.int (n := n) tf (by rw [hpk.1]; omega)
        rw [if_pos (isRk_iff.mpr hpk)] at this
        exact this
      refine ⟨_, rfl, b, dx, _, rfl, hb, nmR, _, rfl, _, rfl, _, rfl, _, _, rfl, rfl, (by show (0 : Int) < 3; decide), D, _, _, _, rfl, rfl, SqL.of kk.2.1, at_of ei hwa, ?_⟩
      refine ⟨b, c', s', n, i, (R, rng n), x, _, _, _, _, rfl, bx, g, by omega, .int _, hrk, fun e => ?_, fun p hp e => ?_, fun p nsk hp e H6 f6 bx6 => ?_⟩
      · rw [hpo] at e; cases e
      · cases e
      · obtain rfl : who = p := Option.some.inj (hpo.symm.trans hp)
        obtain rfl := Option.some.inj e
        refine ⟨_, _, rfl, bx6, g.then (val_set g.val hpk), ?_, keep all3 f6 kk⟩
        show x.deeds ++ [_] = _
        rw [hd, List.range_succ, List.map_append, List.map_singleton, hDj]
    obtain ⟨u3, x, rfl, bx, g, hd, kk⟩ := z
    -- undone again
    refine ⟨1, rfl, 1, rfl, 149, -1, -1, 150, rfl, RgC.neg (by decide) (by decide) (by decide) (by decide), for_rangeC (lo := 149) (c := -1) (n := 150) (fun i σ H' => ∃ (u3 : Option V) (x : Box), σ = [some (.ref M.dm), some (.ref r), some (.int who), u3, some (.ref D), some (.ref b), none] ∧ BoxAt A.C H' b c' s' x ∧ Good n 150 (R, rng n) x ∧ x.deeds = (List.range (150 - i)).map Dd' ∧ (MAt H' M (bd + 1000) ∧ H' D = some (.lst rs) ∧ Paired (TIv H') rs Rk ∧ LamX.Tabs TL H' ∧ TT H' r R))
      ⟨u3, x, rfl, bx, g, hd, kk⟩ (fun i σ H5 hi z => ?_) (fun σ H5 z => ?_)⟩
    · obtain ⟨u3, x, rfl, bx, g, hd, kk⟩ := z
      obtain ⟨dx, ra, aa, hb, _, _⟩ := bx.ob
      obtain ⟨cs, hc, pc⟩ := bx.ch
      have nmL : (flds ra aa c' s').lookup ("log" : Str) = none := lkN _ _ _ _ (by decide +kernel) (by decide +kernel) (by decide +kernel) (by decide +kernel)
      have nmU : (flds ra aa c' s').lookup ("undo" : Str) = none := lkN _ _ _ _ (by decide +kernel) (by decide +kernel) (by decide +kernel) (by decide +kernel)
      refine ⟨_, rfl, b, dx, _, rfl, hb, nmL, b, dx, ra, aa, c', s', cs, rfl, hb, hc, fun p1 hp1 => ?_⟩
      have f6 : Frm [] H5 (upd H5 p1 (.lst cs)) := frm_new hp1
      have g6 : (upd H5 p1 (.lst cs)) p1 = some (.lst cs) := upd_same
      generalize upd H5 p1 (.lst cs) = H6 at f6 g6
      have k6 := keep (fs := []) (fun _ z => nomatch z) f6 kk
      have e5 : (149 + ((i : Nat) : Int) * (-1)) + 1 = ((150 - i : Nat) : Int) := by omega
      refine ⟨_, rfl, _, _, rfl, rfl, _, rfl, by omega, by omega, fun L hL => ?_⟩
      have e6 : ((149 + ((i : Nat) : Int) * (-1)) + 1).toNat = 150 - i := by omega
      refine lc_range (lo := 0) (fun j H' => Frm [] H6 H' ∧ ∃ vs, H' L = some (.lst vs) ∧ Paired (DAt H') vs ((List.range j).map Dd')) ⟨frm_new hL, [], upd_same, .nil⟩ (fun j H7 hj z => ?_) (fun H7 z => ?_)
      · obtain ⟨f7, vs, gL, pv7⟩ := z
        have hjn : j < 150 - i := by rw [← e6]; exact hj
        obtain ⟨wa, hwa, tf, hpk⟩ := rkat H6 j k6.2.2.1
        have ej : (0 + ((j : Nat) : Int)) % 3 = ((j % 3 : Nat) : Int) := by omega
        refine ⟨rfl, _, rfl, _, rfl, _, rfl, _, _, rfl, rfl, (by show (0 : Int) < 3; decide), D, _, _, _, rfl, rfl, SqL.of (f7.lst k6.2.1 (fun z => nomatch z)), at_of ej hwa, by show 3 ≤ sizeLine; decide, fun t1 ht1 => ?_⟩
        have f8 : Frm [] H7 (upd H7 t1 (.tup [.str "rerank", .int who, .ref wa])) := frm_new ht1
        have g8 : (upd H7 t1 (.tup [.str "rerank", .int who, .ref wa])) t1 = some (.tup [.str "rerank", .int who, .ref wa]) := upd_same
        generalize upd H7 t1 (.tup [.str "rerank", .int who, .ref wa]) = H8 at f8 g8
        have gL8 := f8.lst gL (fun z => nomatch z)
        have lvs : vs.length = j := by rw [pd_len pv7, List.length_map, List.length_range]
        refine ⟨vs, gL8, by rw [lvs]; exact small1000 (by omega), (f7.tr f8).put (.inl hL) (pl_lst gL8), vs ++ [.ref t1], upd_same, ?_⟩
        have gg : Frm [L] H8 (upd H8 L (.lst (vs ++ [.ref t1]))) := (FrmT.refl H8).put (.inr (by simp)) (pl_lst gL8)
        rw [List.range_succ, List.map_append, List.map_singleton, hDj]
        exact pd_app (pdD (pdD pv7 f8) gg) (.cons ⟨t1, wa, rfl, gg.tp _ _ g8, (((tf.frm f7).frm f8).frm gg)⟩ .nil)
      · obtain ⟨f7, vs, gL, pv7⟩ := z
        rw [e6, ← hd] at pv7
        have f57 := f6.tr f7
        refine ⟨dDs x.deeds, dDs x.deeds, dp_deeds (f7.lst g6 (fun z => nomatch z)) (pdD pc f57), dp_deeds gL pv7, (sh_dDs _).shaped (by decide), (sh_dDs _).shaped (by decide), _, rfl, iteN (by rw [Sh.refl (sh_dDs x.deeds)]; simp) ?_⟩
        have bx7 := bx.frm0 f57
        refine ⟨_, rfl, b, dx, _, rfl, f57.ins hb (fun z => nomatch z), nmU, b, c', s', n, 150, (R, rng n), x, rfl, bx7, g, fun e => ?_, fun hne H8 f8 bx8 => ?_⟩
        · exfalso
          have : x.deeds.length = 150 - i := by rw [hd, List.length_map, List.length_range]
          rw [e] at this
          simp at this
          omega
        · refine ⟨_, _, rfl, bx8, g.back hne, ?_, keep all3 f8 (keep (fs := []) (fun _ z => nomatch z) f7 k6)⟩
          show x.deeds.dropLast = _
          rw [hd, show 150 - i = (150 - (i + 1)) + 1 by omega, List.range_succ, List.map_append, List.map_singleton, List.dropLast_concat]
    obtain ⟨u3, x, rfl, bx, g, hd, kk⟩ := z
    have hd0 : x.deeds = [] := hd
    have hra := g.begin hd0
    obtain ⟨dx, ra, aa, hb, hTx, _⟩ := bx.ob
    have nmR : (flds ra aa c' s').lookup ("rankings" : Str) = none := lkN _ _ _ _ (by decide +kernel) (by decide +kernel) (by decide +kernel) (by decide +kernel)
    have nmU : (flds ra aa c' s').lookup ("undo" : Str) = none := lkN _ _ _ _ (by decide +kernel) (by decide +kernel) (by decide +kernel) (by decide +kernel)
    have hRe : x.R = R := congrArg Prod.fst hra
    refine ⟨_, rfl, b, dx, _, rfl, hb, nmR, b, dx, ra, aa, c', s', rfl, hb, _, rfl, dR x.R, dR R, dp_TT hTx, dp_TT kk.2.2.2.2, (sh_dR _).shaped (by decide), (sh_dR _).shaped (by decide), _, rfl, iteP (by rw [eqv_dR, hRe]; simp) ?_⟩
    refine ⟨kk.2.2.2.1, fun H6 e6 t6 l0 hl0 => ?_⟩
    have f6 := frm_ext hTL e6 t6
    have f7 : Frm [] H6 (upd H6 l0 (.lst [])) := frm_new hl0
    have bx7 := (bx.frm0 f6).frm0 f7
    obtain ⟨dx7, ra7, aa7, hb7, _, _⟩ := bx7.ob
    have nmU7 : (flds ra7 aa7 c' s').lookup ("undo" : Str) = none := lkN _ _ _ _ (by decide +kernel) (by decide +kernel) (by decide +kernel) (by decide +kernel)
    have m7 : MAt (upd H6 l0 (.lst [])) M (bd + 1000) := (kk.1.frm0 f6).frm0 f7
    refine ⟨_, rfl, b, dx7, _, rfl, hb7, nmU7, b, c', s', n, 150, (R, rng n), x, rfl, bx7, g, fun _ H8 f8 => ?_, fun hne => absurd hd0 hne⟩
    refine ⟨A.eN, .nothing, rfl, T.mN, ⟨rfl, rfl⟩, fun p H9 f9 hp gp => ⟨by show 1 ≤ sizeLine; decide, fun t1 ht1 => ?_⟩⟩
    have f10 : Frm [] H9 (upd H9 t1 (.tup [.str "nothing"])) := frm_new ht1
    have sN : Sh 3 (.tuple [.str "nothing"]) := sh_tup fun d hd => by rw [List.mem_singleton.mp hd]; exact sh_nothing
    refine ⟨.tuple [.str "nothing"], .tuple [.str "nothing"], .tup (SqT.of (f10.tp _ _ gp)) (.cons (.str _) .nil), .tup (SqT.of upd_same) (.cons (.str _) .nil), sN.shaped (by decide), sN.shaped (by decide), ?_⟩
    rw [Sh.refl sN]
    have f70 := (f7.tr f8).tr (f9.tr f10)
    exact q _ (f70.tb TL True.intro t6) (((m7.frm0 f8).frm0 f9).frm0 f10)
end
end Sw
set_option maxHeartbeats 4000000
/-! Swaprow: the law's state -/
namespace Sw
open PySem L2
/-- there, and no table -/
def NT (H : Hp) (z : Addr) : Prop := ∃ o, H z = some o ∧ ∀ ps, o ≠ .tbl ps
section
variable {TP : List (Addr × Str) → Prop} {fs av : List Addr} {H H1 H2 : Hp} {z k b c s C : Addr} {M : Mm} {bd : Nat} {x : Box}
theorem NT.ne (h : NT H z) : H z ≠ none := fun e => by obtain ⟨o, h, _⟩ := h; rw [h] at e; cases e
theorem NT.frm (h : NT H z) (f : FrmT TP fs H H1) (w : z ∈ fs → NT H1 z) : NT H1 z := by
  by_cases hz : z ∈ fs
  · exact w hz
  · obtain ⟨o, e, n⟩ := h
    exact ⟨o, f.kp _ _ e hz n, n⟩
theorem MAt.nt (m : MAt H M bd) : ∀ z ∈ [M.dm, M.g, M.cl], NT H z := fun z hz => by
  obtain ⟨n, _, e1⟩ := m.dm
  obtain ⟨cs, e2, _⟩ := m.cl
  obtain ⟨gs, e3, _⟩ := m.g
  simp only [List.mem_cons, List.not_mem_nil, or_false] at hz
  rcases hz with rfl | rfl | rfl
  · exact ⟨_, e1, fun _ z => nomatch z⟩
  · exact ⟨_, e3, fun _ z => nomatch z⟩
  · exact ⟨_, e2, fun _ z => nomatch z⟩
theorem BoxAt.nt (m : BoxAt C H b c s x) : ∀ z ∈ [b, c, s], NT H z := fun z hz => by
  obtain ⟨_, _, _, e1, _⟩ := m.ob
  obtain ⟨_, e2, _⟩ := m.ch
  obtain ⟨_, e3, _⟩ := m.st
  simp only [List.mem_cons, List.not_mem_nil, or_false] at hz
  rcases hz with rfl | rfl | rfl
  · exact ⟨_, e1, fun _ z => nomatch z⟩
  · exact ⟨_, e2, fun _ z => nomatch z⟩
  · exact ⟨_, e3, fun _ z => nomatch z⟩
theorem KeptAt.nt (m : KeptAt av H k x) : NT H k := by
  obtain ⟨_, _, _, _, e, _⟩ := m.ob
  exact ⟨_, e, fun _ z => nomatch z⟩
end
/-- all that a turn may write -/
abbrev FS (M : Mm) (b c s k : Addr) : List Addr := [M.dm, M.g, M.cl, b, c, s, k]
structure Cc (M : Mm) (b c s k : Addr) (av : List Addr) : Prop where
  mfs : ∀ z ∈ [M.dm, M.g, M.cl], z ∈ av
  bcs : ∀ z ∈ [b, c, s], z ∈ av
  mb : ∀ z ∈ [M.dm, M.g, M.cl], z ∉ [b, c, s]
structure Co (A : Ad) (TL : List (Addr × Str)) (M : Mm) (b c s k r a : Addr) (n : Nat) (x0 : RA) (av : List Addr) (H : Hp) (bd mm : Nat) (x : Box) : Prop where
  m : MAt H M bd
  tb : LamX.Tabs TL H
  T : TT H r x0.1
  I : TI H a x0.2
  bx : BoxAt A.C H b c s x
  kp : KeptAt av H k x
  g : Good n mm x0 x
  nt : ∀ z ∈ av, NT H z
section
variable {A : Ad} {TL : List (Addr × Str)} {M : Mm} {b c s k r a : Addr} {n : Nat} {x0 : RA} {av av' : List Addr} {H H1 H2 : Hp} {bd bd1 mm mm2 : Nat} {x y : Box}
theorem Cc.fsM (cc : Cc M b c s k av) : ∀ z ∈ M.fs, z ∈ [M.dm, M.g, M.cl] := fun z h => by
  simp only [List.mem_cons, List.not_mem_nil, or_false] at h ⊢
  rcases h with h | h
  · exact .inl h
  · exact .inr (.inl h)
theorem Cc.bno (cc : Cc M b c s k av) {z : Addr} (h : z ∈ [b, c, s]) : z ∉ M.fs := fun w => cc.mb z (cc.fsM z w) h
theorem Co.fsub (o : Co A TL M b c s k r a n x0 av H bd mm x) : True := trivial
theorem Co.drawn (o : Co A TL M b c s k r a n x0 av H bd mm x) (cc : Cc M b c s k av) (f : Frm M.fs H H1) (m1 : MAt H1 M bd1) : Co A TL M b c s k r a n x0 av H1 bd1 mm x :=
  ⟨m1, f.tb _ True.intro o.tb, o.T.frm f, o.I.frm f, o.bx.frm f (cc.bno (by simp)) (cc.bno (by simp)) (cc.bno (by simp)), o.kp.frm f fun z h => cc.mfs z (cc.fsM z h), o.g, fun z hz => (o.nt z hz).frm f fun h => m1.nt z (cc.fsM z h)⟩
theorem Co.ext (o : Co A TL M b c s k r a n x0 av H bd mm x) (f : FrmT (fun S => S = TL) [] H H1) : Co A TL M b c s k r a n x0 av H1 bd mm x :=
  ⟨o.m.frm0 f, f.tb _ rfl o.tb, o.T.frm f, o.I.frm f, o.bx.frm0 f, o.kp.frm0 f, o.g, fun z hz => (o.nt z hz).frm f fun h => nomatch h⟩
theorem Co.ext0 (o : Co A TL M b c s k r a n x0 av H bd mm x) (f : Frm [] H H1) : Co A TL M b c s k r a n x0 av H1 bd mm x := o.ext f.any
theorem Co.mb (o : Co A TL M b c s k r a n x0 av H bd mm x) (h1 : bd ≤ bd1) (h2 : mm ≤ mm2) : Co A TL M b c s k r a n x0 av H bd1 mm2 x := ⟨o.m.mono h1, o.tb, o.T, o.I, o.bx, o.kp, o.g.mono h2, o.nt⟩
theorem Co.kno (o : Co A TL M b c s k r a n x0 av H bd mm x) {z : Addr} (h : z ∈ av) : z ∉ [k] := fun w => o.kp.nk (List.mem_singleton.mp w ▸ h)
theorem Co.step (o : Co A TL M b c s k r a n x0 av H bd mm x) (cc : Cc M b c s k av) (f : Frm [b, c, s] H H1) (bx1 : BoxAt A.C H1 b c s y) (f2 : Frm [k] H1 H2) (kp2 : KeptAt av H2 k y) (g2 : Good n mm2 x0 y) : Co A TL M b c s k r a n x0 av H2 bd mm2 y :=
  have m1 := o.m.frm f (cc.mb _ (by simp)) (cc.mb _ (by simp)) (cc.mb _ (by simp))
  ⟨m1.frm f2 (o.kno (cc.mfs _ (by simp))) (o.kno (cc.mfs _ (by simp))) (o.kno (cc.mfs _ (by simp))), f2.tb _ True.intro (f.tb _ True.intro o.tb), (o.T.frm f).frm f2, (o.I.frm f).frm f2,
    bx1.frm f2 (o.kno (cc.bcs _ (by simp))) (o.kno (cc.bcs _ (by simp))) (o.kno (cc.bcs _ (by simp))), kp2, g2, fun z hz => ((o.nt z hz).frm f fun h => bx1.nt z h).frm f2 fun h => absurd h (o.kno hz)⟩
theorem Co.ntFS (o : Co A TL M b c s k r a n x0 av H bd mm x) : ∀ z ∈ FS M b c s k, NT H z := fun z hz => by
  simp only [List.mem_cons, List.not_mem_nil, or_false] at hz
  rcases hz with rfl | rfl | rfl | rfl | rfl | rfl | rfl
  · exact o.m.nt _ (by simp)
  · exact o.m.nt _ (by simp)
  · exact o.m.nt _ (by simp)
  · exact o.bx.nt _ (by simp)
  · exact o.bx.nt _ (by simp)
  · exact o.bx.nt _ (by simp)
  · exact o.kp.nt
end
/-- the twin and its record -/
structure Tc (M : Mm) (b c s k : Addr) (av av2 : List Addr) (b2 c2 s2 k2 : Addr) : Prop where
  in2 : ∀ z ∈ FS M b c s k, z ∈ av2
  own : ∀ z ∈ [b2, c2, s2], z ∈ av2
  in1 : ∀ z ∈ [b2, c2, s2, k2], z ∈ av
  dis : ∀ z ∈ [b2, c2, s2], z ∉ FS M b c s k
structure Tw (A : Ad) (n : Nat) (x0 : RA) (av2 : List Addr) (b2 c2 s2 k2 : Addr) (H : Hp) (mm : Nat) (y : Box) : Prop where
  bx : BoxAt A.C H b2 c2 s2 y
  kp : KeptAt av2 H k2 y
  g : Good n mm x0 y
  nt : ∀ z ∈ av2, NT H z
section
variable {TP : List (Addr × Str) → Prop} {A : Ad} {TL : List (Addr × Str)} {M : Mm} {b c s k r a b2 c2 s2 k2 : Addr} {n : Nat} {x0 : RA} {fs av av2 : List Addr} {H H1 H2 : Hp} {bd bd1 mm mm2 : Nat} {x y y' : Box}
theorem Tw.frm (t : Tw A n x0 av2 b2 c2 s2 k2 H mm y) (tc : Tc M b c s k av av2 b2 c2 s2 k2) (f : FrmT TP fs H H1) (hfs : ∀ z ∈ fs, z ∈ FS M b c s k) (nt1 : ∀ z ∈ FS M b c s k, NT H1 z) : Tw A n x0 av2 b2 c2 s2 k2 H1 mm y :=
  ⟨t.bx.frm f (fun h => tc.dis _ (by simp) (hfs _ h)) (fun h => tc.dis _ (by simp) (hfs _ h)) (fun h => tc.dis _ (by simp) (hfs _ h)), t.kp.frm f fun z h => tc.in2 z (hfs z h), t.g, fun z hz => (t.nt z hz).frm f fun h => nt1 z (hfs z h)⟩
theorem Tw.ext (t : Tw A n x0 av2 b2 c2 s2 k2 H mm y) (f : FrmT TP [] H H1) : Tw A n x0 av2 b2 c2 s2 k2 H1 mm y :=
  ⟨t.bx.frm0 f, t.kp.frm0 f, t.g, fun z hz => (t.nt z hz).frm f fun h => nomatch h⟩
theorem Tw.kno (t : Tw A n x0 av2 b2 c2 s2 k2 H mm y) {z : Addr} (h : z ∈ av2) : z ∉ [k2] := fun w => t.kp.nk (List.mem_singleton.mp w ▸ h)
theorem Tw.step (t : Tw A n x0 av2 b2 c2 s2 k2 H mm y) (tc : Tc M b c s k av av2 b2 c2 s2 k2) (f : Frm [b2, c2, s2] H H1) (bx1 : BoxAt A.C H1 b2 c2 s2 y') (f2 : Frm [k2] H1 H2) (kp2 : KeptAt av2 H2 k2 y') (g2 : Good n mm2 x0 y') : Tw A n x0 av2 b2 c2 s2 k2 H2 mm2 y' :=
  ⟨bx1.frm f2 (t.kno (tc.own _ (by simp))) (t.kno (tc.own _ (by simp))) (t.kno (tc.own _ (by simp))), kp2, g2, fun z hz => ((t.nt z hz).frm f fun h => bx1.nt z h).frm f2 fun h => absurd h (t.kno hz)⟩
theorem Tw.ntT (t : Tw A n x0 av2 b2 c2 s2 k2 H mm y) : ∀ z ∈ [b2, c2, s2, k2], NT H z := fun z hz => by
  simp only [List.mem_cons, List.not_mem_nil, or_false] at hz
  rcases hz with rfl | rfl | rfl | rfl
  · exact t.bx.nt _ (by simp)
  · exact t.bx.nt _ (by simp)
  · exact t.bx.nt _ (by simp)
  · exact t.kp.nt
/-- the box and its record behind what the twin does -/
theorem Co.twin (o : Co A TL M b c s k r a n x0 av H bd mm x) (tc : Tc M b c s k av av2 b2 c2 s2 k2) (t : Tw A n x0 av2 b2 c2 s2 k2 H mm2 y) (f : FrmT (fun S => S = TL) fs H H1) (hfs : ∀ z ∈ fs, z ∈ [b2, c2, s2, k2]) (nt1 : ∀ z ∈ [b2, c2, s2, k2], NT H1 z) : Co A TL M b c s k r a n x0 av H1 bd mm x := by
  have no : ∀ z ∈ FS M b c s k, z ∉ fs := fun z hz h => by
    have h1 := hfs z h
    simp only [List.mem_cons, List.not_mem_nil, or_false] at h1
    rcases h1 with h1 | h1 | h1 | h1
    · exact tc.dis b2 (by simp) (h1 ▸ hz)
    · exact tc.dis c2 (by simp) (h1 ▸ hz)
    · exact tc.dis s2 (by simp) (h1 ▸ hz)
    · exact t.kp.nk (h1 ▸ tc.in2 z hz)
  exact ⟨o.m.frm f (no _ (by simp)) (no _ (by simp)) (no _ (by simp)), f.tb _ rfl o.tb, o.T.frm f, o.I.frm f, o.bx.frm f (no _ (by simp)) (no _ (by simp)) (no _ (by simp)), o.kp.frm f fun z h => tc.in1 z (hfs z h), o.g, fun z hz => (o.nt z hz).frm f fun h => nt1 z (hfs z h)⟩
end
theorem rk_perm' {H : Hp} {n : Nat} {w : V} {ns : List Int} (rk : RkArg H n w (some ns)) : PermN ns n := by
  generalize ho : (some ns : Option (List Int)) = oo at rk
  cases rk with
  | @int a ms h l =>
    by_cases hr : isRk ms n = true
    · rw [if_pos hr] at ho
      cases ho
      exact isRk_iff.mp hr
    · rw [if_neg hr] at ho
      cases ho
  | _ => cases ho
theorem step_good {N : Addr → Prop} {n mm : Nat} {x0 : RA} {x y : Box} {H : Hp} {t : Addr} {q : Req} (g : Good n mm x0 x) (hq : ReqAt N n H t q) (h : stepB n x q = .inr y) : Good n (mm + 1) x0 y := by
  cases q with
  | undo =>
    by_cases hd : x.deeds = []
    · have : (Sum.inl .nothing : Sum Err Box) = .inr y := by rw [← h]; exact (if_pos hd).symm
      cases this
    · have : (Sum.inr x.back : Sum Err Box) = .inr y := by rw [← h]; exact (if_neg hd).symm
      obtain rfl := Sum.inr.inj this
      exact (g.back hd).mono (by omega)
  | swap v =>
    obtain ⟨p, hs, rfl⟩ := step_swap h
    obtain ⟨_, hp, _⟩ := swapOf_eq hs
    exact g.then (val_swp g.val hp)
  | rerank v w o =>
    obtain ⟨p, ns, hs, rfl, rfl⟩ := step_rerank h
    exact g.then (val_set g.val (rk_perm' hq.2.2.1))
theorem sh_person {k : Nat} : Sh (k + 1) (.str "person") := ⟨by decide +kernel, by simp [PyData.depth]⟩
theorem sh_rankings {k : Nat} : Sh (k + 1) (.str "rankings") := ⟨by decide +kernel, by simp [PyData.depth]⟩
/-- an error's tuple as data -/
theorem req_err {K : PySem.W.Frag} {N : Addr → Prop} {n : Nat} {x : Box} {H : Hp} {t : Addr} {q : Req} {e : Err} (hq : ReqAt N n H t q) (h : stepB n x q = .inl e) : ∃ ds, DpAll K H (errV e) ds ∧ Sh 4 (.tuple ds) := by
  have two : ∀ (nm : Str) (v : V) (d : PyData), Sh 3 (.str nm) → OddV N H v d → DpAll K H [.str nm, v] [.str nm, d] ∧ Sh 4 (.tuple [.str nm, d]) := fun nm v d hn hv => ⟨.cons (.str _) (.cons hv.dp .nil), sh_tup fun z hz => by
    rcases List.mem_cons.mp hz with rfl | hz
    · exact hn
    · rw [List.mem_singleton.mp hz]; exact hv.sh⟩
  cases q with
  | undo =>
    by_cases hd : x.deeds = []
    · have : (Sum.inl .nothing : Sum Err Box) = .inl e := by rw [← h]; exact (if_pos hd).symm
      obtain rfl := Sum.inl.inj this
      exact ⟨[.str "nothing"], .cons (.str _) .nil, sh_tup fun z hz => by rw [List.mem_singleton.mp hz]; exact sh_nothing⟩
    · have : (Sum.inr x.back : Sum Err Box) = .inl e := by rw [← h]; exact (if_neg hd).symm
      cases this
  | swap v =>
    obtain ⟨_, d, hv⟩ := hq
    unfold stepB at h
    cases hs : swapOf n x v with
    | some p => simp only [hs] at h; cases h
    | none =>
      simp only [hs] at h
      obtain rfl := Sum.inl.inj h
      exact ⟨_, two "swap" v d sh_swap hv⟩
  | rerank v w o =>
    obtain ⟨_, ⟨d, hv⟩, _⟩ := hq
    unfold stepB at h
    cases hs : personOf n v with
    | none =>
      simp only [hs] at h
      obtain rfl := Sum.inl.inj h
      exact ⟨_, two "person" v d sh_person hv⟩
    | some p =>
      simp only [hs] at h
      cases o with
      | some ns => cases h
      | none =>
        obtain rfl := Sum.inl.inj h
        exact ⟨_, two "rankings" v d sh_rankings hv⟩
end Sw
set_option maxHeartbeats 4000000
/-! Swaprow: one turn of the law -/
namespace Sw
open PySem L2
section
variable {K : PySem.W.Frag} {mg : Str → Option Value} {A : Ad} {TL : List (Addr × Str)} {M : Mm} {b c s k r a t b2 c2 s2 k2 : Addr} {n : Nat} {x0 : RA} {av av2 : List Addr} {H : Hp} {bd mm mm2 : Nat} {x y : Box} {q : Req} {N : Addr → Prop} {σ : St}
theorem ne_false {d : PyData} {k : Nat} (h : Sh k d) : (!PyData.eqv d d) = false := by rw [h.refl]; rfl
theorem sh_none1 : Sh 3 (.list [.none]) := sh_lst fun d hd => by rw [List.mem_singleton.mp hd]; exact ⟨by simp [PyData.canLay0], by simp [PyData.depth]⟩
theorem exm_of_err {H : Hp} {e : Err} {C : Addr} {d : Option Addr} (T : Tx K mg A) (h : ExcCD A H e C d) : PySem.W.exmOne K (.ref C) (.ref A.SE) = some true := by
  cases e with
  | nothing => rw [h.1]; exact T.mN
  | swap v => rw [h.1]; exact T.mS
  | person v => rw [h.1]; exact T.mP
  | rankings v => rw [h.1]; exact T.mR
theorem step_read (T : Tx K mg A) (hTL : TL ≠ []) (cc : Cc M b c s k av) (o : Co A TL M b c s k r a n x0 av H bd mm x) (hm : mm ≤ 500) (hq : ReqAt N n H t q) (hN : ∀ z, N z → z ∉ FS M b c s k)
    (h6 : σ[6]? = some (some (.ref k))) (h9 : σ[9]? = some (some (.ref b))) (h10 : σ[10]? = some (some (.ref t))) :
    tTest (tOp (rNeD K) (LamX.tLam TL (TTs K A) fun E => tCall (spDo A) [] E (tCons (tVar 9) (tCons (tVar 10) tNil))) (tCall spChanged [] E0 (tCons (tVar 6) (tCons (tVar 10) tNil)))) σ H
      (fun bb H' => bb = false ∧ ∃ y, Co A TL M b c s k r a n x0 av H' bd (mm + 1) y ∧ FrmT (fun S => S = TL) (FS M b c s k) H H') := by
  refine ⟨o.tb, fun H1 e1 t1 l0 hl0 => ?_⟩
  have f1 := frm_ext hTL e1 t1
  have f2 : Frm [] H1 (upd H1 l0 (.lst [])) := frm_new hl0
  generalize upd H1 l0 (.lst []) = H2 at f2
  have o2 := (o.ext f1).ext0 f2
  have hq2 := (hq.frm f1 fun _ _ z => nomatch z).frm f2 fun _ _ z => nomatch z
  have f02 : FrmT (fun S => S = TL) (FS M b c s k) H H2 := (f1.tr0 f2.any).mono0
  refine ⟨_, h9, _, h10, b, c, s, t, N, n, mm, x0, x, q, rfl, o2.bx, o2.g, by omega, hq2, fun e he C d H3 f3 hcd => ?_, fun y hy H3 f3 bx3 l hl => ?_⟩
  · refine ⟨C, e, rfl, exm_of_err T hcd, hcd, fun p H4 f4 hp gp => ?_⟩
    have f34 := f3.tr f4
    have o4 := o2.ext0 f34
    have hq4 := hq2.frm f34 fun _ _ z => nomatch z
    refine ⟨_, h6, _, h10, k, t, av, N, n, mm, x0, x, q, rfl, o4.kp, o4.g, by omega, fun z hz => (o4.nt z hz).ne, hq4, fun e' he' p2 H5 f5 hp2 g5 => ?_, fun y hy => ?_⟩
    · obtain rfl : e = e' := Sum.inl.inj (he.symm.trans he')
      obtain ⟨ds, dp, sh⟩ := req_err (K := K) (hq4.frm f5 fun _ _ z => nomatch z) he
      exact ⟨.tuple ds, .tuple ds, .tup (SqT.of (f5.tp _ _ gp)) dp, .tup (SqT.of g5) dp, sh.shaped (by decide), sh.shaped (by decide), _, rfl, ne_false sh, x, (o4.ext0 f5).mb (Nat.le_refl _) (by omega), f02.tr0 (f34.tr f5).any⟩
    · rw [hy] at he; cases he
  · have f4 : Frm [] H3 (upd H3 l (.lst [.non])) := frm_new hl
    have gl : (upd H3 l (.lst [.non])) l = some (.lst [.non]) := upd_same
    generalize upd H3 l (.lst [.non]) = H4 at f4 gl
    have bsub : ∀ z ∈ [b, c, s], z ∈ FS M b c s k := fun z hz => by
      simp only [List.mem_cons, List.not_mem_nil, or_false] at hz ⊢
      rcases hz with rfl | rfl | rfl <;> simp
    have f24 : Frm [b, c, s] H2 H4 := f3.tr0 f4
    have kp4 := o2.kp.frm f24 fun z hz => cc.bcs z hz
    have hq4 := hq2.frm f24 fun z hz w => hN z hz (bsub z w)
    have bx4 := bx3.frm0 f4
    have nt4 : ∀ z ∈ av, NT H4 z := fun z hz => (o2.nt z hz).frm f24 fun h => bx4.nt z h
    have nlk : l ∉ [k] := fun w => by
      obtain ⟨_, _, _, _, ek, _⟩ := (o2.kp.frm f3 fun z hz => cc.bcs z hz).ob
      rw [List.mem_singleton.mp w, ek] at hl
      cases hl
    refine ⟨_, h6, _, h10, k, t, av, N, n, mm, x0, x, q, rfl, kp4, o2.g, by omega, fun z hz => (nt4 z hz).ne, hq4, fun e he => ?_, fun y' hy' p2 H5 f5 kp5 hp2 g5 => ?_⟩
    · rw [hy] at he; cases he
    · obtain rfl : y = y' := Sum.inr.inj (hy.symm.trans hy')
      have sg := step_good o2.g hq2 hy
      refine ⟨.list [.none], .list [.none], .lst (SqL.of (f5.lst gl nlk)) (.cons .non .nil), .lst (SqL.of g5) (.cons .non .nil), sh_none1.shaped (by decide), sh_none1.shaped (by decide), _, rfl, ne_false sh_none1, y, o2.step cc f24 bx4 f5 kp5 sg, ?_⟩
      exact (f02.tr (f24.any.mono bsub)).tr (f5.any.mono fun z hz => by rw [List.mem_singleton.mp hz]; simp)
theorem twin_read (T : Tx K mg A) (hTL : TL ≠ []) (tc : Tc M b c s k av av2 b2 c2 s2 k2) (o : Co A TL M b c s k r a n x0 av H bd mm x) (tw : Tw A n x0 av2 b2 c2 s2 k2 H mm2 y) (hm : mm2 ≤ 900)
    (h7 : σ[7]? = some (some (.ref k2))) (h11 : σ[11]? = some (some (.ref b2))) :
    tTest (tOp (rNeD K) (LamX.tLam TL (TTs K A) fun E => tMeth A.C "undo" (spRowUndo A) [] E (tVar 11) tNil) (tCall spChanged [] E0 (tCons (tVar 7) (tCons (tTup (tCons (tC (.str "undo")) tNil)) tNil)))) σ H
      (fun bb H' => bb = false ∧ ∃ y', Co A TL M b c s k r a n x0 av H' bd mm x ∧ Tw A n x0 av2 b2 c2 s2 k2 H' mm2 y' ∧ y'.deeds.length = y.deeds.length - 1) := by
  refine ⟨o.tb, fun H1 e1 t1 l0 hl0 => ?_⟩
  have f1 := frm_ext hTL e1 t1
  have f2 : Frm [] H1 (upd H1 l0 (.lst [])) := frm_new hl0
  generalize upd H1 l0 (.lst []) = H2 at f2
  have o2 := (o.ext f1).ext0 f2
  have w2 := (tw.ext f1).ext f2
  obtain ⟨dx, ra, aa, hb, _, _⟩ := w2.bx.ob
  have nmU : (flds ra aa c2 s2).lookup ("undo" : Str) = none := lkN _ _ _ _ (by decide +kernel) (by decide +kernel) (by decide +kernel) (by decide +kernel)
  refine ⟨_, h11, b2, dx, _, rfl, hb, nmU, b2, c2, s2, n, mm2, x0, y, rfl, w2.bx, w2.g, fun hd H3 f3 => ?_, fun hd H3 f3 bx3 l hl => ?_⟩
  · refine ⟨A.eN, .nothing, rfl, T.mN, ⟨rfl, rfl⟩, fun p H4 f4 hp gp => ?_⟩
    have f34 := f3.tr f4
    refine ⟨_, h7, by show 1 ≤ sizeLine; decide, fun t ht => ?_⟩
    have f5 : Frm [] H4 (upd H4 t (.tup [.str "undo"])) := frm_new ht
    have gt : (upd H4 t (.tup [.str "undo"])) t = some (.tup [.str "undo"]) := upd_same
    generalize upd H4 t (.tup [.str "undo"]) = H5 at f5 gt
    have f35 := f34.tr f5
    have w5 := w2.ext f35
    refine ⟨k2, t, av2, fun _ => False, n, mm2, x0, y, .undo, rfl, w5.kp, w5.g, by omega, fun z hz => (w5.nt z hz).ne, gt, fun e' he' p2 H6 f6 hp2 g6 => ?_, fun y' hy => ?_⟩
    · obtain rfl : Err.nothing = e' := Sum.inl.inj ((show stepB n y .undo = .inl .nothing from if_pos hd).symm.trans he')
      have sN : Sh 4 (.tuple [.str "nothing"]) := sh_tup fun d hd => by rw [List.mem_singleton.mp hd]; exact sh_nothing
      exact ⟨.tuple [.str "nothing"], .tuple [.str "nothing"], .tup (SqT.of ((f5.tr f6).tp _ _ gp)) (.cons (.str _) .nil), .tup (SqT.of g6) (.cons (.str _) .nil), sN.shaped (by decide), sN.shaped (by decide), _, rfl, ne_false sN, y, (o2.ext0 (f35.tr f6)), w5.ext f6, by rw [hd]; rfl⟩
    · rw [show stepB n y .undo = .inl .nothing from if_pos hd] at hy; cases hy
  · have f4 : Frm [] H3 (upd H3 l (.lst [.non])) := frm_new hl
    have gl : (upd H3 l (.lst [.non])) l = some (.lst [.non]) := upd_same
    have nlk : l ∉ [k2] := fun w => by
      obtain ⟨_, _, _, _, ek, _⟩ := (w2.kp.frm f3 fun z hz => tc.own z hz).ob
      rw [List.mem_singleton.mp w, ek] at hl
      cases hl
    generalize upd H3 l (.lst [.non]) = H4 at f4 gl
    refine ⟨_, h7, by show 1 ≤ sizeLine; decide, fun t ht => ?_⟩
    have f5 : Frm [] H4 (upd H4 t (.tup [.str "undo"])) := frm_new ht
    have gt : (upd H4 t (.tup [.str "undo"])) t = some (.tup [.str "undo"]) := upd_same
    generalize upd H4 t (.tup [.str "undo"]) = H5 at f5 gt
    have gl5 := f5.lst gl (fun z => nomatch z)
    have f25 : Frm [b2, c2, s2] H2 H5 := f3.tr0 (f4.tr f5)
    have kp5 := w2.kp.frm f25 fun z hz => tc.own z hz
    have bx5 := bx3.frm0 (f4.tr f5)
    have nt5 : ∀ z ∈ av2, NT H5 z := fun z hz => (w2.nt z hz).frm f25 fun h => bx5.nt z h
    refine ⟨k2, t, av2, fun _ => False, n, mm2, x0, y, .undo, rfl, kp5, w2.g, by omega, fun z hz => (nt5 z hz).ne, gt, fun e' he' => ?_, fun y' hy p2 H6 f6 kp6 hp2 g6 => ?_⟩
    · rw [show stepB n y .undo = .inr y.back from if_neg hd] at he'; cases he'
    · obtain rfl : y.back = y' := Sum.inr.inj ((show stepB n y .undo = .inr y.back from if_neg hd).symm.trans hy)
      have w6 := w2.step tc f25 bx5 f6 kp6 (w2.g.back hd)
      have fT : FrmT (fun S => S = TL) [b2, c2, s2, k2] H2 H6 := (f25.any.mono fun z hz => by
        simp only [List.mem_cons, List.not_mem_nil, or_false] at hz ⊢
        rcases hz with rfl | rfl | rfl <;> simp).tr (f6.any.mono fun z hz => by rw [List.mem_singleton.mp hz]; simp)
      have o6 := o2.twin tc w2 fT (fun z hz => hz) w6.ntT
      exact ⟨.list [.none], .list [.none], .lst (SqL.of (f6.lst gl5 nlk)) (.cons .non .nil), .lst (SqL.of g6) (.cons .non .nil), sh_none1.shaped (by decide), sh_none1.shaped (by decide), _, rfl, ne_false sh_none1, y.back, o6, w6, by show y.deeds.dropLast.length = _; rw [List.length_dropLast]⟩
end
end Sw
set_option maxHeartbeats 4000000
/-! Swaprow: the law -/
namespace Sw
open PySem L2
theorem KeptAt.more {av ns : List Addr} {H : Hp} {k : Addr} {x : Box} (m : KeptAt av H k x) (h : ∀ z ∈ ns, H z = none) : KeptAt (av ++ ns) H k x := by
  obtain ⟨⟨r, a, p, d, e, t, u, np, nd, ⟨ss, e1, p1⟩, ⟨cs, e2, p2⟩⟩, nk⟩ := m
  have no : ∀ {z : Addr}, H z ≠ none → z ∉ av → z ∉ av ++ ns := fun h1 h2 w => (List.mem_append.mp w).elim h2 fun h3 => h1 (h _ h3)
  exact ⟨⟨r, a, p, d, e, t, u, no (by rw [e1]; simp) np, no (by rw [e2]; simp) nd, ⟨ss, e1, p1⟩, ⟨cs, e2, p2⟩⟩, no (by rw [e]; simp) nk⟩
/-- dict(kept) -/
theorem KeptAt.copied {av av2 : List Addr} {H : Hp} {k k2 : Addr} {x : Box} (m : KeptAt av H k x) (hk : H k2 = none) (h : ∀ z ∈ av2, z ∈ av ∨ z = k ∨ H z = none) (h2 : k2 ∉ av2) :
    ∃ kvs, H k = some (.dK kvs) ∧ KeptAt av2 (upd H k2 (.dK kvs)) k2 x := by
  obtain ⟨⟨r, a, p, d, e, t, u, np, nd, ⟨ss, e1, p1⟩, ⟨cs, e2, p2⟩⟩, nk⟩ := m
  have f : Frm [] H (upd H k2 (.dK [(Sum.inr "lists", .ref r), (Sum.inr "row", .ref a), (Sum.inr "past", .ref p), (Sum.inr "deeds", .ref d)])) := frm_new hk
  have no : ∀ {z : Addr} {xs : List V}, H z = some (.lst xs) → z ∉ av → z ∉ av2 := fun {z xs} h1 h3 w => by
    rcases h z w with h4 | h4 | h4
    · exact h3 h4
    · rw [h4, e] at h1; cases h1
    · rw [h4] at h1; cases h1
  exact ⟨_, e, ⟨r, a, p, d, upd_same, t.frm f, u.frm f, no e1 np, no e2 nd, ⟨ss, f.lst e1 (fun z => nomatch z), pdS p1 f⟩, ⟨cs, f.lst e2 (fun z => nomatch z), pdD p2 f⟩⟩, h2⟩
abbrev qLaw : Str := (PyProof.Rows.envOfC "law" (defScope s_law) 0 0 .none).qual ++ "<lambda>"
section
variable {P : Program} {w : World} {K : PySem.W.Frag} {mg : Str → Option Value} {base : Heap} {A : Ad}
theorem sc_law : FnScope ["_law_script", "_law_m", "_law_turn", "_law_many", "_law_lists_here", "_law_row", "_law_kept", "_law_then", "_law_n", "_law_box", "_law_deed", "_law_twin"] ["_law_script"] (defScope s_law) := ⟨rfl, rfl, rfl, by decide +kernel, rfl, by decide +kernel, by decide +kernel⟩
theorem ok_law {TL : List (Addr × Str)} {f c Pt : Addr} {fd : FuncData} (T : Tx K mg A) (F : FunD K "law" "law" (defArgs s_law) (defBody s_law) (defScope s_law) [] [] f fd) (hcd : fd.code = .ref c)
    (TB : LamX.TabB base mg c Pt) (hmT : (Pt, qLaw) ∈ TL) (hu : ∀ p ∈ TL, p.1 = Pt → p.2 = qLaw)
    (DB : Df P w K mg base CX0 2 "_law_begun" ["_law_script"] (spBegun K)) (DM : Df P w K mg base CX0 7 "_law_many_undone" ["_law_m", "_law_lists_here"] (spMany2 TL)) (DLi : Df P w K mg base CX0 4 "_law_lists" ["_law_m", "_law_many"] spLists)
    (DDr : Df P w K mg base CX0 2 "_law_draw" ["_law_m", "_law_top"] spDraw) (DA : Df P w K mg base CX0 4 "_law_any_row" ["_law_m", "_law_many"] spAnyRow) (DRec : Df P w K mg base CX0 1 "_law_recorded" ["_law_lists_here", "_law_row"] spRecorded)
    (DRow : RowInit P w K mg base 5 A.C ["self", "rankings", "arrangement"] "arrangement" (spInit A.C)) (DCh : Df P w K mg base CX0 4 "_law_change" ["_law_m", "_law_kept"] spChange) (DChd : Df P w K mg base CX0 4 "_law_changed" ["_law_kept", "_law_deed"] spChanged)
    (DIs : Df P w K mg base CX0 8 "_law_is_so" ["_law_box", "_law_kept"] (spIsSo A)) (DLr : Df P w K mg base CX0 8 "_law_likes_right" ["_law_box", "_law_kept"] (spLikesRight A)) (DCp : Dm P w K mg base CX0 7 A.C "copy" ["self"] (spRowCopy A.C))
    (DRk : Dm P w K mg base CX0 1 A.C "rankings" ["self"] (spRankings A.C)) (DAr : Dm P w K mg base CX0 1 A.C "arrangement" ["self"] (spArr A.C)) (DDo : Df P w K mg base (L2.CX P w) 9 "_law_do" ["_law_box", "_law_deed"] (spDo A)) (DU : Dm P w K mg base (L2.CX P w) 3 A.C "undo" ["self"] (spRowUndo A))
    (Dt : DefAt K mg "_law_told" s_L_told) (DC : Df P w K mg base CX0 1 "_law_class" ["_law_error_here"] (spClass A)) : FnOk P w K mg base CX0 12 f fd ["_law_script"] (spLaw K TL) := by
  refine okC0 F hcd sc_law (fun vs H Q E h => ?_) (fun A' outer s H vs Q E hr h => ?_)
  · obtain ⟨a, ns, rfl, _⟩ := h
    rfl
  · obtain ⟨a0, ns, rfl, hS, hl, hTb, q⟩ := h
    have nd := sc_law.nd
    have hu1 := hu_of hr
    have hTL : TL ≠ [] := fun e => by rw [e] at hmT; cases hmT
    refine ⟨_, (pss_cons (ps_set (i := 1) nd rfl (.inl rfl) (pe_df DB (hr.mono (by decide)) pass0 (pa_cons (pv 0) pa_nil))) (pss_cons (ps_if (pt_not (pt_val (pe_df DM (hr.mono (by decide)) pass0 (pa_cons (pv 1) (pa_cons (pe_df DLi (hr.mono (by decide)) pass0 (pa_cons (pv 1) (pa_cons (pe_op op_add pe_int (pe_df DDr (hr.mono (by decide)) pass0 (pa_cons (pv 1) (pa_cons pe_int pa_nil)))) pa_nil))) pa_nil))))) (pss_one (ps_ret pe_bl)) pss_nil) (pss_cons (ps_for PassesOwn.never rfl (pi_range1 (by rfl) T.range (pa_cons pe_int pa_nil)) (pg_name (i := 2) nd rfl (.inl rfl)) (pss_cons (ps_cut (ps_set (i := 3) nd rfl (.inl rfl) (pe_op op_add pe_int (pe_df DDr (hr.mono (by decide)) pass0 (pa_cons (pv 1) (pa_cons pe_int pa_nil)))))) (pss_cons (ps_set (i := 4) nd rfl (.inl rfl) (pe_df DLi (hr.mono (by decide)) pass0 (pa_cons (pv 1) (pa_cons (pv 3) pa_nil)))) (pss_cons (ps_cut (ps_set (i := 5) nd rfl (.inl rfl) (pe_ifExp (pt_cmpR op_eq (pe_df DDr (hr.mono (by decide)) pass0 (pa_cons (pv 1) (pa_cons pe_int pa_nil))) pe_int (nomark _)) (pe_tupRg rfl (by rfl) T.tuple (prg_1 (by rfl) T.range (pv 3))) (pe_df DA (hr.mono (by decide)) pass0 (pa_cons (pv 1) (pa_cons (pv 3) pa_nil)))))) (pss_cons (ps_asg (pe_tup (pa_cons (pe_df DRec (hr.mono (by decide)) pass0 (pa_cons (pv 4) (pa_cons (pv 5) pa_nil))) (pa_cons (pe_rowK DRow (hr.mono (by decide)) T.mgC (pa_cons (pv 4) pa_nil) (pk_cons (pv 5) pk_nil)) pa_nil))) (pg_tup rfl (pgs_cons (pg_name (i := 6) nd rfl (.inl rfl)) (pgs_cons (pg_name (i := 9) nd rfl (.inr rfl)) pgs_nil)))) (pss_cons (ps_asg (pe_tup (pa_cons pe_non (pa_cons pe_non pa_nil))) (pg_tup rfl (pgs_cons (pg_name (i := 11) nd rfl (.inr rfl)) (pgs_cons (pg_name (i := 7) nd rfl (.inl rfl)) pgs_nil)))) (pss_cons (ps_for PassesOwn.never rfl (pi_range1 (by rfl) T.range (pa_cons (pe_op op_add pe_int (pe_df DDr (hr.mono (by decide)) pass0 (pa_cons (pv 1) (pa_cons pe_int pa_nil)))) pa_nil)) (pg_name (i := 8) nd rfl (.inl rfl)) (pss_cons (ps_set (i := 10) nd rfl (.inr rfl) (pe_df DCh (hr.mono (by decide)) pass0 (pa_cons (pv 1) (pa_cons (pv 6) pa_nil)))) (pss_cons (ps_if (PW.pt (pw_or (pt_cut (pt_cmpR (op_neD hr.units) (pe_told (t := fun E => tCall (spDo A) [] E (tCons (tVar 9) (tCons (tVar 10) tNil))) T Dt DC TB hmT hu hr rfl (fun A' outer s H E f c' hr' => pe_df DDo hr' (passes_call (takes_of rfl rfl rfl rfl) (fun _ _ _ _ h => h)) (pa_cons (pv 9) (pa_cons (pv 10) pa_nil))) (by rfl) (LamX.lamS_by (sc := defScope s_law) (by decide +kernel)) rfl (fun _ _ _ _ _ => rfl)) (pe_df DChd (hr.mono (by decide)) pass0 (pa_cons (pv 6) (pa_cons (pv 10) pa_nil))) (nomark _))) (pw_or1 (pt_not (pt_val (pe_df DIs (hr.mono (by decide)) pass0 (pa_cons (pv 9) (pa_cons (pv 6) pa_nil)))))))) (pss_one (ps_ret pe_bl)) pss_nil) (pss_one (ps_if (pt_cmpR op_eq (pv 8) pe_int (nomark _)) (pss_one (ps_asg (pe_tup (pa_cons (pe_dm0 (pv 9) T.cl DCp (hr.mono (by decide)) pass0) (pa_cons (pe_callTy call_dictD (by rfl) T.dict (by decide +kernel) (pa_cons (pv 6) pa_nil)) pa_nil))) (pg_tup rfl (pgs_cons (pg_name (i := 11) nd rfl (.inr rfl)) (pgs_cons (pg_name (i := 7) nd rfl (.inl rfl)) pgs_nil))))) pss_nil))))) (pss_cons (ps_if (PW.pt (pw_or (pt_not (pt_val (pe_df DIs (hr.mono (by decide)) pass0 (pa_cons (pv 11) (pa_cons (pv 7) pa_nil))))) (pw_or1 (pt_not (pt_val (pe_df DLr (hr.mono (by decide)) pass0 (pa_cons (pv 9) (pa_cons (pv 6) pa_nil)))))))) (pss_one (ps_ret pe_bl)) pss_nil) (pss_cons (ps_for PassesOwn.never rfl (pi_range1 (by rfl) T.range (pa_cons (pe_op op_add (pe_len T.len (pe_dget hu1 (pv 7) pe_str (fun _ _ => rfl))) pe_int) pa_nil)) (pg_name (i := 8) nd rfl (.inl rfl)) (pss_one (ps_if (PW.pt (pw_or (pt_cut (pt_cmpR (op_neD hr.units) (pe_told (t := fun E => tMeth A.C "undo" (spRowUndo A) [] E (tVar 11) tNil) T Dt DC TB hmT hu (hr.mono (by decide)) rfl (fun A' outer s H E f c' hr' => pe_dm0 (pv 11) T.cl DU hr' (passes_call (takes_of rfl rfl rfl rfl) (fun _ _ _ _ h => h))) (by rfl) (LamX.lamS_by (sc := defScope s_law) (by decide +kernel)) rfl (fun _ _ _ _ _ => rfl)) (pe_df DChd (hr.mono (by decide)) pass0 (pa_cons (pv 7) (pa_cons (pe_tup (pa_cons pe_str pa_nil)) pa_nil))) (nomark _))) (pw_or1 (pt_not (pt_val (pe_df DIs (hr.mono (by decide)) pass0 (pa_cons (pv 11) (pa_cons (pv 7) pa_nil)))))))) (pss_one (ps_ret pe_bl)) pss_nil))) (pss_cons (ps_if (PW.pt (pw_or (pt_cmpR (op_neD hr.units) (pe_dm0 (pv 11) T.cl DRk (hr.mono (by decide)) pass0) (pv 4) (nomark _)) (pw_or (pt_cmpR (op_neD hr.units) (pe_dm0 (pv 11) T.cl DAr (hr.mono (by decide)) pass0) (pv 5) (nomark _)) (pw_or1 (pt_not (pt_val (pe_df DIs (hr.mono (by decide)) pass0 (pa_cons (pv 9) (pa_cons (pv 6) pa_nil))))))))) (pss_one (ps_ret pe_bl)) pss_nil) (pss_one (ps_if (pt_cmpR (op_neD hr.units) (pe_dm0 (pe_row1 DRow (hr.mono (by decide)) T.mgC (pa_cons (pv 4) pa_nil)) T.cl DAr (hr.mono (by decide)) pass0) (pe_tupRg rfl (by rfl) T.tuple (prg_1 (by rfl) T.range (pv 3))) (nomark _)) (pss_one (ps_ret pe_bl)) pss_nil)))))))))))) (pss_one (ps_ret pe_bl))))), ?_⟩
    refine ⟨_, rfl, a0, ns, rfl, hS, hl, fun M H1 f1 m1 => ?_⟩
    refine ⟨_, rfl, _, rfl, _, rfl, M, 0, 3, rfl, m1, by omega, by omega, by omega, fun j H2 hj f2 m2 => ?_⟩
    refine ⟨_, _, rfl, rfl, M, 1, 2 + j, by rw [show ((2 + j : Nat) : Int) = 2 + (j : Int) by omega]; rfl, m2, by omega, by omega, by omega, fun r0 H3 R0 hT0 lR0 pR0 f3 m3 => ?_⟩
    have tb3 : LamX.Tabs TL H3 := f3.tb _ True.intro (f2.tb _ True.intro (f1.tb _ True.intro hTb))
    refine ⟨M, 20001, 2 + j, r0, R0, rfl, m3.mono (by omega), by omega, hT0, by omega, by omega, lR0, pR0, tb3, fun H4 tb4 m4 => ⟨_, rfl, iteN (by simp) ?_⟩⟩
    refine ⟨2, rfl, by decide, by decide, for_range (lo := 0) (n := 2) (fun i σ H' => (∃ u2 u3 u4 u5 u6 u7 u8 u9 u10 u11 : Option V, σ = [some (.ref a0), some (.ref M.dm), u2, u3, u4, u5, u6, u7, u8, u9, u10, u11]) ∧ MAt H' M (30000 + 90000 * i) ∧ LamX.Tabs TL H')
      ⟨⟨none, none, none, none, none, none, none, none, none, none, rfl⟩, m4.mono (by omega), tb4⟩ (fun i σ G0 hi z => ?_) (fun σ G0 z => q G0)⟩
    obtain ⟨⟨u2, u3, u4, u5, u6, u7, u8, u9, u10, u11, rfl⟩, m0, tb0⟩ := z
    have hBd : 30000 + 90000 * i ≤ 120000 := by omega
    generalize hB0 : 30000 + 90000 * i = B0 at m0 hBd
    -- how many
    refine ⟨fun σ' H' => ∃ n : Nat, 1 ≤ n ∧ n ≤ 8 ∧ σ' = [some (.ref a0), some (.ref M.dm), some (.int (0 + (i : Nat))), some (.int (n : Nat)), u4, u5, u6, u7, u8, u9, u10, u11] ∧ MAt H' M (B0 + 1) ∧ LamX.Tabs TL H', ?_, ?_⟩
    · refine ⟨_, rfl, M, _, 8, rfl, m0, by omega, by omega, by omega, fun j1 G1 hj1 f m => ⟨_, _, rfl, rfl, 1 + j1, by omega, by omega, ?_, m, f.tb _ True.intro tb0⟩⟩
      rw [show ((1 + j1 : Nat) : Int) = 1 + (j1 : Int) by omega]
      rfl
    rintro σ' G1 ⟨n, n1, n8, rfl, m1', tb1⟩
    refine ⟨_, rfl, _, rfl, M, _, n, rfl, m1', by omega, n1, by omega, fun r G2 R hT lR pR f2' m2' => ?_⟩
    have tb2 := f2'.tb _ True.intro tb1
    -- the row
    refine ⟨fun σ' H' => ∃ (a : Addr) (A0 : List Int), σ' = [some (.ref a0), some (.ref M.dm), some (.int (0 + (i : Nat))), some (.int (n : Nat)), some (.ref r), some (.ref a), u6, u7, u8, u9, u10, u11] ∧ TI H' a A0 ∧ PermN A0 n ∧ Frm M.fs G2 H' ∧ MAt H' M (B0 + 25000), ?_, ?_⟩
    · refine ⟨_, rfl, M, _, 2, rfl, m2', by omega, by omega, by omega, fun j2 G3 hj2 f m => ⟨rfl, _, rfl, ite2 (fun _ => ?_) (fun _ => ?_)⟩⟩
      · refine ⟨_, rfl, _, rfl, .of_le (by decide) (by omega) (by decide) (by omega), fun p hp => ⟨p, rng n, rfl, ?_, permN_rng n, f.new hp, ((m.puts m2' (f.tk _ hp)).mono (by omega))⟩⟩
        unfold TI
        rw [upd_same, rgV_rng]
      · exact ⟨_, rfl, _, rfl, M, _, n, rfl, m, by omega, n1, by omega, fun a G4 A0 hI hP f' m' => ⟨a, A0, rfl, hI, hP, f.tr f', m'.mono (by omega)⟩⟩
    rintro σ' G3 ⟨a, A0, rfl, hI, hP, f3', m3'⟩
    have hT3 := hT.frm f3'
    have tb3' := f3'.tb _ True.intro tb2
    have vx : Val n (R, A0) := ⟨lR, pR, hP⟩
    -- the record, the box
    refine ⟨_, rfl, _, rfl, r, a, (R, A0), rfl, hT3, hI, fun k G4 f4 hk4 hK => ?_⟩
    have hT4 := hT3.frm f4
    have hI4 := hI.frm f4
    refine ⟨_, rfl, _, rfl, _, _, rfl, rfl, r, n, (R, A0), rfl, hT4, .inr ⟨a, rfl, hI4⟩, n1, by omega, vx, fun b c' s' G5 nb nc ns' f5 bx5 => ⟨by show 2 ≤ sizeLine; decide, fun t1 ht1 => ?_⟩⟩
    have f6 : Frm [] G5 (upd G5 t1 (.tup [.ref k, .ref b])) := frm_new ht1
    have et1 : (upd G5 t1 (.tup [.ref k, .ref b])) t1 = some (.tup [.ref k, .ref b]) := upd_same
    generalize upd G5 t1 (.tup [.ref k, .ref b]) = G6 at f6 et1
    refine ⟨t1, _, rfl, SqT.of et1, rfl, _, _, rfl, _, _, rfl, rfl, ?_⟩
    refine ⟨by show 2 ≤ sizeLine; decide, fun t2 ht2 => ?_⟩
    have f7 : Frm [] G6 (upd G6 t2 (.tup [.non, .non])) := frm_new ht2
    have et2 : (upd G6 t2 (.tup [.non, .non])) t2 = some (.tup [.non, .non]) := upd_same
    generalize upd G6 t2 (.tup [.non, .non]) = G7 at f7 et2
    refine ⟨t2, _, rfl, SqT.of et2, rfl, _, _, rfl, _, _, rfl, rfl, ?_⟩
    have f47 := f5.tr (f6.tr f7)
    have f37 := f4.tr f47
    have hM3 := m3'.nt
    have m7 := m3'.frm0 f37
    have bx7 := bx5.frm0 (f6.tr f7)
    have nbM : ∀ z ∈ [b, c', s'], G4 z = none := fun z hz => by
      simp only [List.mem_cons, List.not_mem_nil, or_false] at hz
      rcases hz with rfl | rfl | rfl
      · exact nb
      · exact nc
      · exact ns'
    have kp4 : KeptAt [M.dm, M.g, M.cl] G4 k (Box.new (R, A0)) := hK _ fun z hz => (hM3 z hz).ne
    have kp7 : KeptAt ([M.dm, M.g, M.cl] ++ [b, c', s']) G7 k (Box.new (R, A0)) := (kp4.more nbM).frm0 f47
    have cc0 : Cc M b c' s' k ([M.dm, M.g, M.cl] ++ [b, c', s']) := ⟨fun z hz => List.mem_append_left _ hz, fun z hz => List.mem_append_right _ hz, fun z hz w => ((hM3 z hz).frm f4 fun h => nomatch h).ne (nbM z w)⟩
    have g0 : Good n 0 (R, A0) (Box.new (R, A0)) := good_new n1 (by omega) vx
    have o0 : Co A TL M b c' s' k r a n (R, A0) ([M.dm, M.g, M.cl] ++ [b, c', s']) G7 (B0 + 25000) 0 (Box.new (R, A0)) :=
      ⟨m7, f37.tb _ True.intro tb3', hT3.frm f37, hI.frm f37, bx7, kp7, g0, fun z hz => by
        rcases List.mem_append.mp hz with h | h
        · exact m7.nt z h
        · exact bx7.nt z h⟩
    generalize hav0 : [M.dm, M.g, M.cl] ++ [b, c', s'] = av0 at cc0 o0
    -- the changes
    refine ⟨_, rfl, M, _, 12, rfl, o0.m, by omega, by omega, by omega, fun j3 G8 hj3 f8 m8 => ⟨_, _, rfl, rfl, _, rfl, by omega, by omega, ?_⟩⟩
    have o8 := o0.drawn cc0 f8 m8
    have ecnt : ((20 : Int) + (j3 : Nat)).toNat = 20 + j3 := by omega
    refine for_range (lo := 0) (fun i2 σ H' => ∃ (u8 u10 : Option V) (tv nv : V) (x : Box) (av : List Addr), σ = [some (.ref a0), some (.ref M.dm), some (.int (0 + (i : Nat))), some (.int (n : Nat)), some (.ref r), some (.ref a), some (.ref k), some nv, u8, some (.ref b), u10, some tv] ∧ Cc M b c' s' k av ∧
        Co A TL M b c' s' k r a n (R, A0) av H' (B0 + 25001 + 1000 * i2) i2 x ∧ ((i2 ≤ 9 ∧ tv = .non ∧ nv = .non) ∨ (10 ≤ i2 ∧ ∃ (b2 c2 s2 k2 : Addr) (av2 : List Addr) (y : Box), tv = .ref b2 ∧ nv = .ref k2 ∧ Tc M b c' s' k av av2 b2 c2 s2 k2 ∧ Tw A n (R, A0) av2 b2 c2 s2 k2 H' 100 y)))
      ⟨_, _, .non, .non, _, av0, rfl, cc0, o8, .inl ⟨by omega, rfl, rfl⟩⟩ (fun i2 σ K0 hi2 z => ?_) (fun σ K0 z => ?_)
    · obtain ⟨u8, u10, tv, nv, x, av, rfl, cc, o, hc⟩ := z
      have hi2' : i2 < 20 + j3 := by rw [← ecnt]; exact hi2
      refine ⟨_, rfl, _, rfl, M, _, k, av, n, i2, (R, A0), x, rfl, o.m, by omega, o.kp, fun z hz => cc.mfs z (cc.fsM z hz), o.g, fun t K1 rq hq f1 m1 => ?_⟩
      have o1 := o.drawn cc f1 m1
      have hN : ∀ z, K0 z = none → z ∉ FS M b c' s' k := fun z hz w => (o.ntFS z w).ne hz
      refine ⟨_, step_read T hTL cc o1 (by omega) hq hN rfl rfl rfl, fun bb K2 z => ?_⟩
      obtain ⟨rfl, y, o2, F2⟩ := z
      refine iteN (by simp) ?_
      refine ⟨_, rfl, _, rfl, b, c', s', k, av, n, i2 + 1, (R, A0), y, rfl, o2.bx, o2.kp, o2.g, by omega, fun K3 f3 => ⟨_, rfl, iteN (by simp) ?_⟩⟩
      have o3 := o2.ext0 f3
      have F3 : FrmT (fun S => S = TL) (FS M b c' s' k) K0 K3 := ((f1.any.mono fun z hz => by
        have := cc.fsM z hz
        simp only [List.mem_cons, List.not_mem_nil, or_false] at this ⊢
        rcases this with rfl | rfl | rfl <;> simp).tr F2).tr0 f3.any
      have o3' := o3.mb (bd1 := B0 + 25001 + 1000 * (i2 + 1)) (mm2 := i2 + 1) (by omega) (Nat.le_refl _)
      refine ⟨_, rfl, rfl, _, rfl, ?_⟩
      rcases hc with ⟨hi9, rfl, rfl⟩ | ⟨hi10, b2, c2, s2, k2, av2, w, rfl, rfl, tc, tw⟩
      · by_cases h9 : i2 = 9
        · refine iteP (by rw [h9]; exact decide_eq_true rfl) ?_
          obtain ⟨dx, ra, aa, hb, _, _⟩ := o3.bx.ob
          have nmC : (flds ra aa c' s').lookup ("copy" : Str) = none := lkN _ _ _ _ (by decide +kernel) (by decide +kernel) (by decide +kernel) (by decide +kernel)
          refine ⟨_, rfl, b, dx, _, rfl, hb, nmC, b, c', s', n, i2 + 1, (R, A0), y, rfl, o3.bx, o3.g, fun b2 c2 s2 K4 nb2 nc2 ns2 f4 bx4 => ?_⟩
          have o4 := o3'.ext0 f4
          have new3 : ∀ z ∈ [b2, c2, s2], K3 z = none := fun z hz => by
            simp only [List.mem_cons, List.not_mem_nil, or_false] at hz
            rcases hz with rfl | rfl | rfl
            · exact nb2
            · exact nc2
            · exact ns2
          have kp4 : KeptAt (av ++ [b2, c2, s2]) K4 k y := (o3'.kp.more new3).frm0 f4
          obtain ⟨kvs, ek⟩ : ∃ kvs, K4 k = some (.dK kvs) := let ⟨_, _, _, _, ek, _⟩ := o4.kp.ob; ⟨_, ek⟩
          refine ⟨_, rfl, k, kvs, rfl, .inl ek, fun k2 hk2 => ⟨by show 2 ≤ sizeLine; decide, fun t3 ht3 => ?_⟩⟩
          have nt4 : ∀ z ∈ FS M b c' s' k ++ [b2, c2, s2], NT K4 z := fun z hz => (List.mem_append.mp hz).elim (o4.ntFS z) (bx4.nt z)
          obtain ⟨kvs', ek', kp5⟩ := kp4.copied (av2 := FS M b c' s' k ++ [b2, c2, s2]) hk2 (fun z hz => by
            rcases List.mem_append.mp hz with h | h
            · simp only [List.mem_cons, List.not_mem_nil, or_false] at h
              rcases h with rfl | rfl | rfl | rfl | rfl | rfl | rfl
              · exact .inl (List.mem_append_left _ (cc.mfs _ (by simp)))
              · exact .inl (List.mem_append_left _ (cc.mfs _ (by simp)))
              · exact .inl (List.mem_append_left _ (cc.mfs _ (by simp)))
              · exact .inl (List.mem_append_left _ (cc.bcs _ (by simp)))
              · exact .inl (List.mem_append_left _ (cc.bcs _ (by simp)))
              · exact .inl (List.mem_append_left _ (cc.bcs _ (by simp)))
              · exact .inr (.inl rfl)
            · exact .inl (List.mem_append_right _ h)) (fun h => (nt4 k2 h).ne hk2)
          obtain rfl : kvs = kvs' := by rw [ek] at ek'; injection ek' with ek'; injection ek'
          have f5 : Frm [] K4 (upd K4 k2 (.dK kvs)) := frm_new hk2
          have gk2 : (upd K4 k2 (.dK kvs)) k2 = some (.dK kvs) := upd_same
          have kp5' : KeptAt ((av ++ [b2, c2, s2]) ++ [k2]) (upd K4 k2 (.dK kvs)) k y := (kp4.more (ns := [k2]) fun z hz => by rw [List.mem_singleton.mp hz]; exact hk2).frm0 f5
          generalize upd K4 k2 (.dK kvs) = K5 at f5 gk2 kp5 kp5' ht3
          have f6 : Frm [] K5 (upd K5 t3 (.tup [.ref b2, .ref k2])) := frm_new ht3
          have et3 : (upd K5 t3 (.tup [.ref b2, .ref k2])) t3 = some (.tup [.ref b2, .ref k2]) := upd_same
          generalize upd K5 t3 (.tup [.ref b2, .ref k2]) = K6 at f6 et3
          refine ⟨t3, _, rfl, SqT.of et3, rfl, _, _, rfl, _, _, rfl, rfl, ?_⟩
          have f46 := f5.tr f6
          have o6 := o4.ext0 f46
          have bx6 := bx4.frm0 f46
          have nk6 : NT K6 k2 := ⟨_, f6.dk gk2 (fun z => nomatch z), fun _ z => nomatch z⟩
          have cc6 : Cc M b c' s' k ((av ++ [b2, c2, s2]) ++ [k2]) := ⟨fun z hz => List.mem_append_left _ (List.mem_append_left _ (cc.mfs z hz)), fun z hz => List.mem_append_left _ (List.mem_append_left _ (cc.bcs z hz)), cc.mb⟩
          have o6' : Co A TL M b c' s' k r a n (R, A0) ((av ++ [b2, c2, s2]) ++ [k2]) K6 (B0 + 25001 + 1000 * (i2 + 1)) (i2 + 1) y := ⟨o6.m, o6.tb, o6.T, o6.I, o6.bx, kp5'.frm0 f6, o6.g, fun z hz => by
            rcases List.mem_append.mp hz with h | h
            · rcases List.mem_append.mp h with h | h
              · exact o6.nt z h
              · exact bx6.nt z h
            · rw [List.mem_singleton.mp h]; exact nk6⟩
          have tc : Tc M b c' s' k ((av ++ [b2, c2, s2]) ++ [k2]) (FS M b c' s' k ++ [b2, c2, s2]) b2 c2 s2 k2 := ⟨fun z hz => List.mem_append_left _ hz, fun z hz => List.mem_append_right _ hz, fun z hz => by
            simp only [List.mem_cons, List.not_mem_nil, or_false] at hz
            rcases hz with rfl | rfl | rfl | rfl <;> simp, fun z hz w => (o3'.ntFS z w).ne (new3 z hz)⟩
          have tw : Tw A n (R, A0) (FS M b c' s' k ++ [b2, c2, s2]) b2 c2 s2 k2 K6 100 y := ⟨bx6, kp5.frm0 f6, o3.g.mono (by omega), fun z hz => (nt4 z hz).frm f46 fun h => nomatch h⟩
          exact ⟨_, _, _, _, y, _, rfl, cc6, o6', .inr ⟨by omega, b2, c2, s2, k2, _, y, rfl, rfl, tc, tw⟩⟩
        · refine iteN (fun z => h9 (by have := V.int.inj (of_decide_eq_true z); omega)) ?_
          exact ⟨_, _, .non, .non, y, av, rfl, cc, o3', .inl ⟨by omega, rfl, rfl⟩⟩
      · refine iteN (fun z => by have := V.int.inj (of_decide_eq_true z); omega) ?_
        exact ⟨_, _, _, _, y, av, rfl, cc, o3', .inr ⟨by omega, b2, c2, s2, k2, av2, w, rfl, rfl, tc, tw.frm tc F3 (fun z hz => hz) o3'.ntFS⟩⟩
    rw [ecnt] at z
    obtain ⟨u8, u10, tv, nv, x, av, rfl, cc, o, hc⟩ := z
    rcases hc with ⟨h9, _⟩ | ⟨hi10, b2, c2, s2, k2, av2, y, rfl, rfl, tc, tw⟩
    · omega
    refine ⟨_, rfl, _, rfl, b2, c2, s2, k2, av2, n, 100, (R, A0), y, rfl, tw.bx, tw.kp, tw.g, by omega, fun K1 f1 => ⟨_, rfl, iteN (by simp) ?_⟩⟩
    have o1 := o.ext0 f1
    refine ⟨_, rfl, _, rfl, b, c', s', k, av, n, _, (R, A0), x, rfl, o1.bx, o1.kp, o1.g, fun K2 f2 => ⟨_, rfl, iteN (by simp) ?_⟩⟩
    have o2 := o1.ext0 f2
    have w2 := (tw.ext f1).ext f2
    obtain ⟨r2, a2, p2, d2, ek2, _, _, _, _, _, ⟨cs2, ec2, pc2⟩⟩ := w2.kp.ob
    have lcs : cs2.length = y.deeds.length := pd_len pc2
    have few := w2.g.few
    refine ⟨_, rfl, k2, _, rfl, dgetK (k := Sum.inr "deeds") ek2 (kg_deeds _ _ _ _), d2, _, rfl, .inl ec2, _, _, rfl, rfl, _, rfl, by omega, by omega, ?_⟩
    have e2 : ((cs2.length : Int) + 1).toNat = cs2.length + 1 := by omega
    refine for_range (lo := 0) (fun i3 σ H' => ∃ (u8 u10 : Option V) (y' : Box), σ = [some (.ref a0), some (.ref M.dm), some (.int (0 + (i : Nat))), some (.int (n : Nat)), some (.ref r), some (.ref a), some (.ref k), some (.ref k2), u8, some (.ref b), u10, some (.ref b2)] ∧
        Co A TL M b c' s' k r a n (R, A0) av H' (B0 + 25001 + 1000 * (20 + j3)) (20 + j3) x ∧ Tw A n (R, A0) av2 b2 c2 s2 k2 H' 100 y' ∧ y'.deeds.length = y.deeds.length - i3)
      ⟨_, _, y, rfl, o2, w2, rfl⟩ (fun i3 σ L0 hi3 z => ?_) (fun σ L0 z => ?_)
    · obtain ⟨u8, u10, y', rfl, o, tw, hlen⟩ := z
      refine ⟨_, twin_read T hTL tc o tw (by omega) rfl rfl, fun bb L1 z => ?_⟩
      obtain ⟨rfl, y2, o1, tw1, hl1⟩ := z
      refine iteN (by simp) ?_
      refine ⟨_, rfl, _, rfl, b2, c2, s2, k2, av2, n, 100, (R, A0), y2, rfl, tw1.bx, tw1.kp, tw1.g, by omega, fun L2 f2 => ⟨_, rfl, iteN (by simp) ?_⟩⟩
      exact ⟨_, _, y2, rfl, o1.ext0 f2, tw1.ext f2, by omega⟩
    rw [e2] at z
    obtain ⟨u8, u10, y', rfl, o, tw, hlen⟩ := z
    have hd0 : y'.deeds = [] := List.eq_nil_of_length_eq_zero (by omega)
    have hra := tw.g.begin hd0
    have hRe : y'.R = R := congrArg Prod.fst hra
    have hAe : y'.A = A0 := congrArg Prod.snd hra
    obtain ⟨dx, ra, aa, hb, hTx, hIx⟩ := tw.bx.ob
    have nmR : (flds ra aa c2 s2).lookup ("rankings" : Str) = none := lkN _ _ _ _ (by decide +kernel) (by decide +kernel) (by decide +kernel) (by decide +kernel)
    have nmA : (flds ra aa c2 s2).lookup ("arrangement" : Str) = none := lkN _ _ _ _ (by decide +kernel) (by decide +kernel) (by decide +kernel) (by decide +kernel)
    refine ⟨_, rfl, b2, dx, _, rfl, hb, nmR, b2, dx, ra, aa, c2, s2, rfl, hb, _, rfl, dR y'.R, dR R, dp_TT hTx, dp_TT o.T, (sh_dR _).shaped (by decide), (sh_dR _).shaped (by decide), _, rfl, iteN (by rw [eqv_dR, hRe]; simp) ?_⟩
    refine ⟨_, rfl, b2, dx, _, rfl, hb, nmA, b2, dx, ra, aa, c2, s2, rfl, hb, _, rfl, dI y'.A, dI A0, dp_TI hIx, dp_TI o.I, (sh_dI _).shaped (by decide), (sh_dI _).shaped (by decide), _, rfl, iteN (by rw [eqv_dI, hAe]; simp) ?_⟩
    refine ⟨_, rfl, _, rfl, b, c', s', k, av, n, _, (R, A0), x, rfl, o.bx, o.kp, o.g, by omega, fun L1 f1 => ⟨_, rfl, iteN (by simp) ?_⟩⟩
    have o1 := o.ext0 f1
    refine ⟨_, rfl, _, rfl, r, n, (R, rng n), rfl, o1.T, .inl ⟨rfl, rfl⟩, n1, by omega, ⟨lR, pR, permN_rng n⟩, fun b3 c3 s3 L2 nb3 nc3 ns3 f2 bx3 => ?_⟩
    obtain ⟨dx3, r3, a3, hb3, _, hI3⟩ := bx3.ob
    have nm3 : (flds r3 a3 c3 s3).lookup ("arrangement" : Str) = none := lkN _ _ _ _ (by decide +kernel) (by decide +kernel) (by decide +kernel) (by decide +kernel)
    have o2 := o1.ext0 f2
    refine ⟨b3, dx3, _, rfl, hb3, nm3, b3, dx3, r3, a3, c3, s3, rfl, hb3, _, rfl, _, rfl, .of_le (by decide) (by omega) (by decide) (by omega), fun p hp => ?_⟩
    rw [rgV_rng]
    have f3 : Frm [] L2 (upd L2 p (.tup ((rng n).map V.int))) := frm_new hp
    have gp : TI (upd L2 p (.tup ((rng n).map V.int))) p (rng n) := upd_same
    have o3 := o2.ext0 f3
    refine ⟨dI (rng n), dI (rng n), dp_TI (TI.frm (ns := rng n) hI3 f3), dp_TI gp, (sh_dI _).shaped (by decide), (sh_dI _).shaped (by decide), _, rfl, iteN (dI_same _) ?_⟩
    exact ⟨⟨_, _, _, _, _, _, _, _, _, _, rfl⟩, o3.m.mono (by omega), o3.tb⟩
end
end Sw
set_option maxHeartbeats 0
namespace He
open PySem PySem.Spec PyProof.Rows L2
/-! ### the statics too -/
def asY (g : Addr → Option Obj) (n : Nat) : List Addr := cStatics :: asD g n
def obsY (n : Nat) (fa : List Fa) (fn : List DefD) (ts : List Tab) (tf : List Defn) (ex : PySem.W.Frag → Bool) (g : Addr → Option Obj) : AlX := (obsT fa fn ts (frT g (asY g n)), ex (frT g (asY g n)) && tabsB g tf (frT g (asY g n)))
theorem saysY_of {n : Nat} {fa : List Fa} {fn : List DefD} {ts : List Tab} {tf : List Defn} {ex : PySem.W.Frag → Bool} {w : World} {h : Heap} (e : obsY n fa fn ts tf ex h.get? = valX fn ts w) : SaysX fa fn ts tf ex w h (frT h.get? (asY h.get? n)) := by
  have e1 : obsT fa fn ts (frT h.get? (asY h.get? n)) = valT fn ts w := congrArg (fun z : AlX => z.1) e
  have e2 : (ex (frT h.get? (asY h.get? n)) && tabsB h.get? tf (frT h.get? (asY h.get? n))) = true := congrArg (fun z : AlX => z.2) e
  obtain ⟨h1, h2⟩ := ba e2
  have key : ∀ p ∈ tf, PySem.W.codeHdIn (frT h.get? (asY h.get? n)) (cT (frT h.get? (asY h.get? n)) p).1 (cT (frT h.get? (asY h.get? n)) p).2 = true ∧ ∃ o, h.get? (cT (frT h.get? (asY h.get? n)) p).2 = some o ∧ emptyTab o = true := fun p hp => by
    obtain ⟨h3, h4⟩ := ba (List.all_eq_true.mp h2 p hp)
    refine ⟨h3, ?_⟩
    cases q : h.get? (cT (frT h.get? (asY h.get? n)) p).2 with
    | none =>
      rw [q] at h4
      cases h4
    | some o =>
      rw [q] at h4
      exact ⟨o, rfl, h4⟩
  exact ⟨e1, h1, fun p hp => (key p hp).1, fun p hp => by
    obtain ⟨_, o, q, z⟩ := key p hp
    exact frT_none q z, fun p hp => by
    obtain ⟨_, o, q, z⟩ := key p hp
    rw [q, emptyTab_eq z]⟩
def hookY (n : Nat) (fa : List Fa) (fn : List DefD) (ts : List Tab) (tf : List Defn) (ex : PySem.W.Frag → Bool) : PySem.W.Hook where
  α := AlX
  obs := fun s => obsY n fa fn ts tf ex s.heap.get?
  val := fun w => valX fn ts w
  says := fun w h => ∃ K : PySem.W.Frag, K.In h ∧ SaysX fa fn ts tf ex w h K
  of := fun _ _ e => ⟨_, frT_in, saysY_of e⟩
  keeps := fun _ _ _ ⟨K, hK, c⟩ k => ⟨K, PySem.W.Frag.In.keeps hK k, ⟨c.t, c.more, c.hd, c.out, fun p hp => k _ _ (c.empty p hp)⟩⟩
theorem obsY_eq {n : Nat} {fa : List Fa} {fn : List DefD} {ts : List Tab} {tf : List Defn} {ex : PySem.W.Frag → Bool} {g : Addr → Option Obj} {s : Shared} (h : ∀ a, g a = s.heap.get? a) : obsY n fa fn ts tf ex g = (hookY n fa fn ts tf ex).obs s := by
  have e : g = s.heap.get? := funext h
  rw [e] <;> rfl
end He
namespace Sw
open PySem L2
abbrev RR : PySem.W.OpenRow := PySem.W.OpenLaw.row PySem.Challenge.rw_swaprow_k60_whole_live_rows
abbrev hk : PySem.W.Hook := He.hookY 4 fa fn [] tf exB
def ob (s : PySem.W.SharedT) : He.AlX := He.obsY 4 fa fn [] tf exB (HandSHeadRun.getT s)
theorem ob_eq (s : PySem.W.SharedT) : ob s = hk.obs s.abs := He.obsY_eq (HandSHeadRun.getT_eq s)
abbrev loose : List Str := (["_wall", "SwaprowError", "InvalidRankings", "InvalidArrangement", "InvalidPerson", "InvalidItem", "InvalidSwap", "NothingToUndo", "MAX_PEOPLE", "is_integer", "is_number_below", "is_ranking", "check_rankings", "check_person", "rank_tables", "check_arrangement", "check_fitting", "is_allowed_there", "allowed_swaps", "swapped"] : List Str) ++ (["LiveRow", "_law_mixed", "_law_folded", "_law_draw", "_law_begun", "_law_mixed_up", "_law_walked", "_law_lists", "_law_likes", "_law_may", "_law_after", "_law_any_row", "_law_recorded", "_law_is_ranked", "_law_is_below", "_law_error", "_law_changed", "_law_class", "_law_told", "_law_change"] : List Str) ++ (["_law_do", "_law_is_so", "_law_likes_right", "_law_many_undone"] : List Str)
theorem run (w : World) : HandSHeadRun.RunEq RR (PySem.W.view RR.prog [50]) hk ob 8000 loose w := by
  intro os
  kernel_rfl
end Sw
set_option maxHeartbeats 4000000
/-! Swaprow: the facts as the walk wants them -/
namespace Sw
open PySem PySem.Spec PyProof.Rows L2 He
def adOf (K : PySem.W.Frag) : Ad := ⟨ga K "LiveRow", ga K "SwaprowError", ga K "InvalidRankings", ga K "InvalidArrangement", ga K "InvalidPerson", ga K "InvalidItem", ga K "InvalidSwap", ga K "NothingToUndo"⟩
theorem oexB_ok {K : PySem.W.Frag} {C : Addr} (h : oexB K C = true) : ∃ nm q N bs bm sn sub ab col dd k0 k1 k2 k3 k5, K.lookup C = some (excClassObj nm q C N bs bm true sn sub ab col dd k0 k1 k2 k3 k5 "ValueError.__new__") ∧ PySem.HandSPX.refsVE bm = true := by
  unfold oexB at h
  split at h
  · rename_i T dd cd sl e
    split at h
    · rename_i C' bm k0 k1 k2 k3 n k5 e1 e2
      obtain ⟨h1, h⟩ := ba h
      obtain ⟨h2, h⟩ := ba h
      obtain ⟨h3, h⟩ := ba h
      obtain ⟨h4, h5⟩ := ba h
      obtain ⟨nm, bs, mro, ns, qn, hdct, sn, sub, ab, col, hdel⟩ := cd
      simp only at e1 h3 h4 h5 h
      subst e1
      obtain rfl : C' = C := by simpa using h1
      obtain rfl : n = "ValueError.__new__" := by simpa using h2
      obtain rfl : hdel = false := by simpa using h3
      subst h5
      have e3 : sl = #[k0, k1, k2, k3, some (.builtin "ValueError.__new__"), k5] := by
        rw [← Array.toArray_toList (xs := sl), e2]
      subst e3
      exact ⟨_, _, _, _, _, _, _, _, _, _, _, _, _, _, _, e, h4⟩
    · cases h
  · cases h
theorem one_ok {K : PySem.W.Frag} {x f : Str} (hn : PySem.W.specialIn K (.builtin "object.__class__") "__get__" = some (some (.builtin "getset_descriptor.__get__"))) (ht : PySem.W.takesIn K (.builtin "object.__class__") = some true) (h : oneB K x f = true) :
    ExK K (ga K x) f ∧ PySem.W.findIn K (.ref (ga K x)) "__init__" = some (some (.ref (ma K (ga K x) "__init__"))) ∧ PySem.W.typeIn K (.ref (ma K (ga K x) "__init__")) = some (.type "function") := by
  obtain ⟨a1, h⟩ := ba h
  obtain ⟨a2, h⟩ := ba h
  obtain ⟨a3, h⟩ := ba h
  obtain ⟨a4, h⟩ := ba h
  obtain ⟨a5, h⟩ := ba h
  obtain ⟨a6, h⟩ := ba h
  obtain ⟨a7, h⟩ := ba h
  obtain ⟨a8, h⟩ := ba h
  obtain ⟨a9, h⟩ := ba h
  obtain ⟨a10, h⟩ := ba h
  obtain ⟨a11, h⟩ := ba h
  obtain ⟨a12, a13⟩ := ba h
  refine ⟨⟨⟨oexB_ok a1, eqO_ok a2, of_decide_eq_true a3, of_decide_eq_true a4, a5⟩, ⟨eqO_ok a6, eqO_ok a7, of_decide_eq_true a3, a8⟩, ⟨eqO_ok a6, eqO_ok a7, of_decide_eq_true a3, a8, eqO_ok a9, hn, ht, of_decide_eq_true a10⟩, eqO_ok a11⟩, eqO_ok a12, of_decide_eq_true a13⟩
theorem isi_ok {K : PySem.W.Frag} {x : Str} (h : isiB K x = true) : Kits K (adOf K) (ga K x) (decide (x = "InvalidSwap")) (decide (x = "InvalidPerson")) (decide (x = "InvalidItem")) (decide (x = "InvalidRankings")) (decide (x = "InvalidArrangement")) (decide (x = "NothingToUndo")) := by
  have k : ∀ y ∈ (["InvalidSwap", "InvalidPerson", "InvalidItem", "InvalidRankings", "InvalidArrangement", "NothingToUndo"] : List Str), PySem.W.kitOne K (.ref (ga K x)) (.ref (ga K y)) = some (decide (x = y)) := fun y hy => of_decide_eq_true (List.all_eq_true.mp h y hy)
  exact ⟨k _ (by simp), k _ (by simp), k _ (by simp), k _ (by simp), k _ (by simp), k _ (by simp)⟩
theorem sup_ok {K : PySem.W.Frag} (h : supB K = true) : PySem.W.findCls K (.ref (ga K "SwaprowError")) (.type "type") "__init__" = some (.val (.builtin "ValueError.__init__")) := by
  unfold supB at h
  split at h
  · rename_i n e
    obtain rfl : n = "ValueError.__init__" := by simpa using h
    exact e
  · cases h
section
variable {w : World} {K : PySem.W.Frag} {h : Heap} {mg : Str → Option Value}
theorem tx_ok (X : K.In h) (G : h.Ns mainGlobals mg) (c : SaysX fa fn [] tf exB w h K) : Tx K mg (adOf K) := by
  have e := c.more
  obtain ⟨x1, e⟩ := ba e
  obtain ⟨x2, e⟩ := ba e
  obtain ⟨x3, e⟩ := ba e
  obtain ⟨x4, e⟩ := ba e
  obtain ⟨i1, e⟩ := ba e
  obtain ⟨i2, e⟩ := ba e
  obtain ⟨i3, e⟩ := ba e
  obtain ⟨i4, e⟩ := ba e
  obtain ⟨hn, e⟩ := ba e
  obtain ⟨ht, e⟩ := ba e
  obtain ⟨cC, e⟩ := ba e
  obtain ⟨cM, e⟩ := ba e
  obtain ⟨cNe, e⟩ := ba e
  obtain ⟨cIn, e⟩ := ba e
  obtain ⟨rd, e⟩ := ba e
  obtain ⟨sg, e⟩ := ba e
  obtain ⟨sup, e⟩ := ba e
  obtain ⟨r1, e⟩ := ba e
  obtain ⟨r2, e⟩ := ba e
  obtain ⟨r3, e⟩ := ba e
  obtain ⟨r4, e⟩ := ba e
  have hn' := eqO_ok hn
  have ht' : PySem.W.takesIn K (.builtin "object.__class__") = some true := of_decide_eq_true ht
  have kR := isi_ok i1
  have kP := isi_ok i2
  have kS := isi_ok i3
  have kN := isi_ok i4
  exact ⟨He.cls_ok (c.t.d.fact 56 (f := .cls "LiveRow") rfl),
    He.noat_ok (c.t.d.fact 58 (f := .noat "LiveRow" "own_rankings") rfl),
    He.noat_ok (c.t.d.fact 59 (f := .noat "LiveRow" "own_arrangement") rfl),
    He.noat_ok (c.t.d.fact 60 (f := .noat "LiveRow" "changes") rfl),
    He.noat_ok (c.t.d.fact 61 (f := .noat "LiveRow" "states") rfl),
    He.glo_ok X G (c.t.d.fact 42 (f := .glo "LiveRow") rfl),
    He.glo_ok X G (c.t.d.fact 35 (f := .glo "SwaprowError") rfl),
    He.glo_ok X G (c.t.d.fact 36 (f := .glo "InvalidRankings") rfl),
    He.glo_ok X G (c.t.d.fact 37 (f := .glo "InvalidArrangement") rfl),
    He.glo_ok X G (c.t.d.fact 38 (f := .glo "InvalidPerson") rfl),
    He.glo_ok X G (c.t.d.fact 39 (f := .glo "InvalidItem") rfl),
    He.glo_ok X G (c.t.d.fact 40 (f := .glo "InvalidSwap") rfl),
    He.glo_ok X G (c.t.d.fact 41 (f := .glo "NothingToUndo") rfl),
    He.free_ok X G (c.t.d.fact 43 (f := .free "isinstance") rfl),
    He.free_ok X G (c.t.d.fact 44 (f := .free "int") rfl),
    He.free_ok X G (c.t.d.fact 45 (f := .free "bool") rfl),
    He.free_ok X G (c.t.d.fact 46 (f := .free "tuple") rfl),
    He.free_ok X G (c.t.d.fact 47 (f := .free "len") rfl),
    He.free_ok X G (c.t.d.fact 48 (f := .free "all") rfl),
    He.free_ok X G (c.t.d.fact 49 (f := .free "set") rfl),
    He.free_ok X G (c.t.d.fact 50 (f := .free "enumerate") rfl),
    He.free_ok X G (c.t.d.fact 51 (f := .free "range") rfl),
    He.free_ok X G (c.t.d.fact 52 (f := .free "list") rfl),
    He.free_ok X G (c.t.d.fact 53 (f := .free "sorted") rfl),
    He.free_ok X G (c.t.d.fact 54 (f := .free "dict") rfl),
    He.int_ok X G (c.t.d.fact 55 (f := .int "MAX_PEOPLE" 40) rfl),
    (one_ok hn' ht' x3).1,
    (one_ok hn' ht' x2).1,
    (one_ok hn' ht' x1).1,
    (one_ok hn' ht' x4).1,
    kS,
    kP,
    kR,
    kN,
    He.exm_ok (c.t.d.fact 75 (f := .exm "InvalidSwap" "SwaprowError" true) rfl),
    He.exm_ok (c.t.d.fact 74 (f := .exm "InvalidPerson" "SwaprowError" true) rfl),
    He.exm_ok (c.t.d.fact 73 (f := .exm "InvalidRankings" "SwaprowError" true) rfl),
    He.exm_ok (c.t.d.fact 76 (f := .exm "NothingToUndo" "SwaprowError" true) rfl),
    ⟨rd, eqO_ok sg⟩,
    eqO_ok cC,
    hn',
    ht',
    of_decide_eq_true cM,
    of_decide_eq_true r1,
    of_decide_eq_true r2,
    of_decide_eq_true r3,
    of_decide_eq_true r4,
    sup_ok sup⟩
theorem own_ok (c : SaysX fa fn [] tf exB w h K) (f : Addr) (m : Meth K (ga K "LiveRow") "__eq__" f) : OwnQ K (ga K "LiveRow") f := by
  have e := c.more
  obtain ⟨x1, e⟩ := ba e
  obtain ⟨x2, e⟩ := ba e
  obtain ⟨x3, e⟩ := ba e
  obtain ⟨x4, e⟩ := ba e
  obtain ⟨i1, e⟩ := ba e
  obtain ⟨i2, e⟩ := ba e
  obtain ⟨i3, e⟩ := ba e
  obtain ⟨i4, e⟩ := ba e
  obtain ⟨hn, e⟩ := ba e
  obtain ⟨ht, e⟩ := ba e
  obtain ⟨cC, e⟩ := ba e
  obtain ⟨cM, e⟩ := ba e
  obtain ⟨cNe, e⟩ := ba e
  obtain ⟨cIn, e⟩ := ba e
  obtain ⟨rd, e⟩ := ba e
  obtain ⟨sg, e⟩ := ba e
  obtain ⟨sup, e⟩ := ba e
  obtain ⟨r1, e⟩ := ba e
  obtain ⟨r2, e⟩ := ba e
  obtain ⟨r3, e⟩ := ba e
  obtain ⟨r4, e⟩ := ba e
  obtain ⟨r5, e⟩ := ba e
  obtain ⟨r6, e⟩ := ba e
  obtain ⟨r7, e⟩ := ba e
  exact ⟨m.at_, eqO_ok cNe, m.fn, of_decide_eq_true cM, of_decide_eq_true r5, of_decide_eq_true r6, of_decide_eq_true r7⟩
theorem tabs_ne (c : SaysX fa fn [] tf exB w h K) : (He.cT K ("_law_many_undone", none)).2 ≠ (He.cT K ("law", none)).2 := by
  have e := c.more
  obtain ⟨x1, e⟩ := ba e
  obtain ⟨x2, e⟩ := ba e
  obtain ⟨x3, e⟩ := ba e
  obtain ⟨x4, e⟩ := ba e
  obtain ⟨i1, e⟩ := ba e
  obtain ⟨i2, e⟩ := ba e
  obtain ⟨i3, e⟩ := ba e
  obtain ⟨i4, e⟩ := ba e
  obtain ⟨hn, e⟩ := ba e
  obtain ⟨ht, e⟩ := ba e
  obtain ⟨cC, e⟩ := ba e
  obtain ⟨cM, e⟩ := ba e
  obtain ⟨cNe, e⟩ := ba e
  obtain ⟨cIn, e⟩ := ba e
  obtain ⟨rd, e⟩ := ba e
  obtain ⟨sg, e⟩ := ba e
  obtain ⟨sup, e⟩ := ba e
  obtain ⟨r1, e⟩ := ba e
  obtain ⟨r2, e⟩ := ba e
  obtain ⟨r3, e⟩ := ba e
  obtain ⟨r4, e⟩ := ba e
  obtain ⟨r5, e⟩ := ba e
  obtain ⟨r6, e⟩ := ba e
  obtain ⟨r7, e⟩ := ba e
  obtain ⟨r8, e⟩ := ba e
  obtain ⟨r9, e⟩ := ba e
  simpa using e
theorem at_InvalidSwap (c : SaysX fa fn [] tf exB w h K) : ExAt K (ga K "InvalidSwap") "InvalidSwap.__init__" s_InvalidSwap [] := by
  have e := c.more
  obtain ⟨x1, e⟩ := ba e
  obtain ⟨x2, e⟩ := ba e
  obtain ⟨x3, e⟩ := ba e
  obtain ⟨x4, e⟩ := ba e
  obtain ⟨i1, e⟩ := ba e
  obtain ⟨i2, e⟩ := ba e
  obtain ⟨i3, e⟩ := ba e
  obtain ⟨i4, e⟩ := ba e
  obtain ⟨hn, e⟩ := ba e
  obtain ⟨ht, e⟩ := ba e
  obtain ⟨cC, e⟩ := ba e
  obtain ⟨cM, e⟩ := ba e
  obtain ⟨cNe, e⟩ := ba e
  obtain ⟨cIn, e⟩ := ba e
  obtain ⟨rd, e⟩ := ba e
  obtain ⟨sg, e⟩ := ba e
  obtain ⟨sup, e⟩ := ba e
  obtain ⟨_, q1, q2⟩ := one_ok (eqO_ok hn) (of_decide_eq_true ht) x3
  obtain ⟨fd, F⟩ := c.t.d.def_ 37 (d := d_InvalidSwap) rfl
  exact ⟨_, fd, F, q1, q2⟩
theorem at_InvalidPerson (c : SaysX fa fn [] tf exB w h K) : ExAt K (ga K "InvalidPerson") "InvalidPerson.__init__" s_InvalidPerson [] := by
  have e := c.more
  obtain ⟨x1, e⟩ := ba e
  obtain ⟨x2, e⟩ := ba e
  obtain ⟨x3, e⟩ := ba e
  obtain ⟨x4, e⟩ := ba e
  obtain ⟨i1, e⟩ := ba e
  obtain ⟨i2, e⟩ := ba e
  obtain ⟨i3, e⟩ := ba e
  obtain ⟨i4, e⟩ := ba e
  obtain ⟨hn, e⟩ := ba e
  obtain ⟨ht, e⟩ := ba e
  obtain ⟨cC, e⟩ := ba e
  obtain ⟨cM, e⟩ := ba e
  obtain ⟨cNe, e⟩ := ba e
  obtain ⟨cIn, e⟩ := ba e
  obtain ⟨rd, e⟩ := ba e
  obtain ⟨sg, e⟩ := ba e
  obtain ⟨sup, e⟩ := ba e
  obtain ⟨_, q1, q2⟩ := one_ok (eqO_ok hn) (of_decide_eq_true ht) x2
  obtain ⟨fd, F⟩ := c.t.d.def_ 36 (d := d_InvalidPerson) rfl
  exact ⟨_, fd, F, q1, q2⟩
theorem at_InvalidRankings (c : SaysX fa fn [] tf exB w h K) : ExAt K (ga K "InvalidRankings") "InvalidRankings.__init__" s_InvalidRankings [.non] := by
  have e := c.more
  obtain ⟨x1, e⟩ := ba e
  obtain ⟨x2, e⟩ := ba e
  obtain ⟨x3, e⟩ := ba e
  obtain ⟨x4, e⟩ := ba e
  obtain ⟨i1, e⟩ := ba e
  obtain ⟨i2, e⟩ := ba e
  obtain ⟨i3, e⟩ := ba e
  obtain ⟨i4, e⟩ := ba e
  obtain ⟨hn, e⟩ := ba e
  obtain ⟨ht, e⟩ := ba e
  obtain ⟨cC, e⟩ := ba e
  obtain ⟨cM, e⟩ := ba e
  obtain ⟨cNe, e⟩ := ba e
  obtain ⟨cIn, e⟩ := ba e
  obtain ⟨rd, e⟩ := ba e
  obtain ⟨sg, e⟩ := ba e
  obtain ⟨sup, e⟩ := ba e
  obtain ⟨_, q1, q2⟩ := one_ok (eqO_ok hn) (of_decide_eq_true ht) x1
  obtain ⟨fd, F⟩ := c.t.d.def_ 35 (d := d_InvalidRankings) rfl
  exact ⟨_, fd, F, q1, q2⟩
theorem at_NothingToUndo (c : SaysX fa fn [] tf exB w h K) : ExAt K (ga K "NothingToUndo") "NothingToUndo.__init__" s_NothingToUndo [] := by
  have e := c.more
  obtain ⟨x1, e⟩ := ba e
  obtain ⟨x2, e⟩ := ba e
  obtain ⟨x3, e⟩ := ba e
  obtain ⟨x4, e⟩ := ba e
  obtain ⟨i1, e⟩ := ba e
  obtain ⟨i2, e⟩ := ba e
  obtain ⟨i3, e⟩ := ba e
  obtain ⟨i4, e⟩ := ba e
  obtain ⟨hn, e⟩ := ba e
  obtain ⟨ht, e⟩ := ba e
  obtain ⟨cC, e⟩ := ba e
  obtain ⟨cM, e⟩ := ba e
  obtain ⟨cNe, e⟩ := ba e
  obtain ⟨cIn, e⟩ := ba e
  obtain ⟨rd, e⟩ := ba e
  obtain ⟨sg, e⟩ := ba e
  obtain ⟨sup, e⟩ := ba e
  obtain ⟨_, q1, q2⟩ := one_ok (eqO_ok hn) (of_decide_eq_true ht) x4
  obtain ⟨fd, F⟩ := c.t.d.def_ 38 (d := d_NothingToUndo) rfl
  exact ⟨_, fd, F, q1, q2⟩
theorem at_init (c : SaysX fa fn [] tf exB w h K) : InitAt K (ga K "LiveRow") "LiveRow.__init__" s_row_init [("arrangement", .non)] := by
  obtain ⟨fd, F⟩ := c.t.d.def_ 39 (d := d_row_init) rfl
  exact ⟨_, fd, F, He.mkr_ok (c.t.d.fact 57 (f := .mkr "LiveRow") rfl)⟩
theorem at_is_integer (X : K.In h) (G : h.Ns mainGlobals mg) (c : SaysX fa fn [] tf exB w h K) : DefAt K mg "is_integer" s_is_integer := by
  obtain ⟨fd, F⟩ := c.t.d.def_ 0 (d := d_is_integer) rfl
  exact ⟨_, fd, F, He.glo_ok X G (c.t.d.fact 0 (f := .glo "is_integer") rfl)⟩
theorem at_is_number_below (X : K.In h) (G : h.Ns mainGlobals mg) (c : SaysX fa fn [] tf exB w h K) : DefAt K mg "is_number_below" s_is_number_below := by
  obtain ⟨fd, F⟩ := c.t.d.def_ 1 (d := d_is_number_below) rfl
  exact ⟨_, fd, F, He.glo_ok X G (c.t.d.fact 1 (f := .glo "is_number_below") rfl)⟩
theorem at_is_ranking (X : K.In h) (G : h.Ns mainGlobals mg) (c : SaysX fa fn [] tf exB w h K) : DefAt K mg "is_ranking" s_is_ranking := by
  obtain ⟨fd, F⟩ := c.t.d.def_ 2 (d := d_is_ranking) rfl
  exact ⟨_, fd, F, He.glo_ok X G (c.t.d.fact 2 (f := .glo "is_ranking") rfl)⟩
theorem at_check_rankings (X : K.In h) (G : h.Ns mainGlobals mg) (c : SaysX fa fn [] tf exB w h K) : DefAt K mg "check_rankings" s_check_rankings := by
  obtain ⟨fd, F⟩ := c.t.d.def_ 3 (d := d_check_rankings) rfl
  exact ⟨_, fd, F, He.glo_ok X G (c.t.d.fact 3 (f := .glo "check_rankings") rfl)⟩
theorem at_check_person (X : K.In h) (G : h.Ns mainGlobals mg) (c : SaysX fa fn [] tf exB w h K) : DefAt K mg "check_person" s_check_person := by
  obtain ⟨fd, F⟩ := c.t.d.def_ 4 (d := d_check_person) rfl
  exact ⟨_, fd, F, He.glo_ok X G (c.t.d.fact 4 (f := .glo "check_person") rfl)⟩
theorem at_rank_tables (X : K.In h) (G : h.Ns mainGlobals mg) (c : SaysX fa fn [] tf exB w h K) : DefAt K mg "rank_tables" s_rank_tables := by
  obtain ⟨fd, F⟩ := c.t.d.def_ 5 (d := d_rank_tables) rfl
  exact ⟨_, fd, F, He.glo_ok X G (c.t.d.fact 5 (f := .glo "rank_tables") rfl)⟩
theorem at_check_arrangement (X : K.In h) (G : h.Ns mainGlobals mg) (c : SaysX fa fn [] tf exB w h K) : DefAt K mg "check_arrangement" s_check_arrangement := by
  obtain ⟨fd, F⟩ := c.t.d.def_ 6 (d := d_check_arrangement) rfl
  exact ⟨_, fd, F, He.glo_ok X G (c.t.d.fact 6 (f := .glo "check_arrangement") rfl)⟩
theorem at_check_fitting (X : K.In h) (G : h.Ns mainGlobals mg) (c : SaysX fa fn [] tf exB w h K) : DefAt K mg "check_fitting" s_check_fitting := by
  obtain ⟨fd, F⟩ := c.t.d.def_ 7 (d := d_check_fitting) rfl
  exact ⟨_, fd, F, He.glo_ok X G (c.t.d.fact 7 (f := .glo "check_fitting") rfl)⟩
theorem at_is_allowed_there (X : K.In h) (G : h.Ns mainGlobals mg) (c : SaysX fa fn [] tf exB w h K) : DefAt K mg "is_allowed_there" s_is_allowed_there := by
  obtain ⟨fd, F⟩ := c.t.d.def_ 8 (d := d_is_allowed_there) rfl
  exact ⟨_, fd, F, He.glo_ok X G (c.t.d.fact 8 (f := .glo "is_allowed_there") rfl)⟩
theorem at_allowed_swaps (X : K.In h) (G : h.Ns mainGlobals mg) (c : SaysX fa fn [] tf exB w h K) : DefAt K mg "allowed_swaps" s_allowed_swaps := by
  obtain ⟨fd, F⟩ := c.t.d.def_ 9 (d := d_allowed_swaps) rfl
  exact ⟨_, fd, F, He.glo_ok X G (c.t.d.fact 9 (f := .glo "allowed_swaps") rfl)⟩
theorem at_swapped (X : K.In h) (G : h.Ns mainGlobals mg) (c : SaysX fa fn [] tf exB w h K) : DefAt K mg "swapped" s_swapped := by
  obtain ⟨fd, F⟩ := c.t.d.def_ 10 (d := d_swapped) rfl
  exact ⟨_, fd, F, He.glo_ok X G (c.t.d.fact 10 (f := .glo "swapped") rfl)⟩
theorem at_L_mixed (X : K.In h) (G : h.Ns mainGlobals mg) (c : SaysX fa fn [] tf exB w h K) : DefAt K mg "_law_mixed" s_L_mixed := by
  obtain ⟨fd, F⟩ := c.t.d.def_ 11 (d := d_L_mixed) rfl
  exact ⟨_, fd, F, He.glo_ok X G (c.t.d.fact 11 (f := .glo "_law_mixed") rfl)⟩
theorem at_L_folded (X : K.In h) (G : h.Ns mainGlobals mg) (c : SaysX fa fn [] tf exB w h K) : DefAt K mg "_law_folded" s_L_folded := by
  obtain ⟨fd, F⟩ := c.t.d.def_ 12 (d := d_L_folded) rfl
  exact ⟨_, fd, F, He.glo_ok X G (c.t.d.fact 12 (f := .glo "_law_folded") rfl)⟩
theorem at_L_draw (X : K.In h) (G : h.Ns mainGlobals mg) (c : SaysX fa fn [] tf exB w h K) : DefAt K mg "_law_draw" s_L_draw := by
  obtain ⟨fd, F⟩ := c.t.d.def_ 13 (d := d_L_draw) rfl
  exact ⟨_, fd, F, He.glo_ok X G (c.t.d.fact 13 (f := .glo "_law_draw") rfl)⟩
theorem at_L_begun (X : K.In h) (G : h.Ns mainGlobals mg) (c : SaysX fa fn [] tf exB w h K) : DefAt K mg "_law_begun" s_L_begun := by
  obtain ⟨fd, F⟩ := c.t.d.def_ 14 (d := d_L_begun) rfl
  exact ⟨_, fd, F, He.glo_ok X G (c.t.d.fact 14 (f := .glo "_law_begun") rfl)⟩
theorem at_L_mixed_up (X : K.In h) (G : h.Ns mainGlobals mg) (c : SaysX fa fn [] tf exB w h K) : DefAt K mg "_law_mixed_up" s_L_mixed_up := by
  obtain ⟨fd, F⟩ := c.t.d.def_ 15 (d := d_L_mixed_up) rfl
  exact ⟨_, fd, F, He.glo_ok X G (c.t.d.fact 15 (f := .glo "_law_mixed_up") rfl)⟩
theorem at_L_walked (X : K.In h) (G : h.Ns mainGlobals mg) (c : SaysX fa fn [] tf exB w h K) : DefAt K mg "_law_walked" s_L_walked := by
  obtain ⟨fd, F⟩ := c.t.d.def_ 16 (d := d_L_walked) rfl
  exact ⟨_, fd, F, He.glo_ok X G (c.t.d.fact 16 (f := .glo "_law_walked") rfl)⟩
theorem at_L_lists (X : K.In h) (G : h.Ns mainGlobals mg) (c : SaysX fa fn [] tf exB w h K) : DefAt K mg "_law_lists" s_L_lists := by
  obtain ⟨fd, F⟩ := c.t.d.def_ 17 (d := d_L_lists) rfl
  exact ⟨_, fd, F, He.glo_ok X G (c.t.d.fact 17 (f := .glo "_law_lists") rfl)⟩
theorem at_L_likes (X : K.In h) (G : h.Ns mainGlobals mg) (c : SaysX fa fn [] tf exB w h K) : DefAt K mg "_law_likes" s_L_likes := by
  obtain ⟨fd, F⟩ := c.t.d.def_ 18 (d := d_L_likes) rfl
  exact ⟨_, fd, F, He.glo_ok X G (c.t.d.fact 18 (f := .glo "_law_likes") rfl)⟩
theorem at_L_may (X : K.In h) (G : h.Ns mainGlobals mg) (c : SaysX fa fn [] tf exB w h K) : DefAt K mg "_law_may" s_L_may := by
  obtain ⟨fd, F⟩ := c.t.d.def_ 19 (d := d_L_may) rfl
  exact ⟨_, fd, F, He.glo_ok X G (c.t.d.fact 19 (f := .glo "_law_may") rfl)⟩
theorem at_L_after (X : K.In h) (G : h.Ns mainGlobals mg) (c : SaysX fa fn [] tf exB w h K) : DefAt K mg "_law_after" s_L_after := by
  obtain ⟨fd, F⟩ := c.t.d.def_ 20 (d := d_L_after) rfl
  exact ⟨_, fd, F, He.glo_ok X G (c.t.d.fact 20 (f := .glo "_law_after") rfl)⟩
theorem at_L_any_row (X : K.In h) (G : h.Ns mainGlobals mg) (c : SaysX fa fn [] tf exB w h K) : DefAt K mg "_law_any_row" s_L_any_row := by
  obtain ⟨fd, F⟩ := c.t.d.def_ 21 (d := d_L_any_row) rfl
  exact ⟨_, fd, F, He.glo_ok X G (c.t.d.fact 21 (f := .glo "_law_any_row") rfl)⟩
theorem at_L_recorded (X : K.In h) (G : h.Ns mainGlobals mg) (c : SaysX fa fn [] tf exB w h K) : DefAt K mg "_law_recorded" s_L_recorded := by
  obtain ⟨fd, F⟩ := c.t.d.def_ 22 (d := d_L_recorded) rfl
  exact ⟨_, fd, F, He.glo_ok X G (c.t.d.fact 22 (f := .glo "_law_recorded") rfl)⟩
theorem at_L_is_ranked (X : K.In h) (G : h.Ns mainGlobals mg) (c : SaysX fa fn [] tf exB w h K) : DefAt K mg "_law_is_ranked" s_L_is_ranked := by
  obtain ⟨fd, F⟩ := c.t.d.def_ 23 (d := d_L_is_ranked) rfl
  exact ⟨_, fd, F, He.glo_ok X G (c.t.d.fact 23 (f := .glo "_law_is_ranked") rfl)⟩
theorem at_L_is_below (X : K.In h) (G : h.Ns mainGlobals mg) (c : SaysX fa fn [] tf exB w h K) : DefAt K mg "_law_is_below" s_L_is_below := by
  obtain ⟨fd, F⟩ := c.t.d.def_ 24 (d := d_L_is_below) rfl
  exact ⟨_, fd, F, He.glo_ok X G (c.t.d.fact 24 (f := .glo "_law_is_below") rfl)⟩
theorem at_L_error (X : K.In h) (G : h.Ns mainGlobals mg) (c : SaysX fa fn [] tf exB w h K) : DefAt K mg "_law_error" s_L_error := by
  obtain ⟨fd, F⟩ := c.t.d.def_ 25 (d := d_L_error) rfl
  exact ⟨_, fd, F, He.glo_ok X G (c.t.d.fact 25 (f := .glo "_law_error") rfl)⟩
theorem at_L_changed (X : K.In h) (G : h.Ns mainGlobals mg) (c : SaysX fa fn [] tf exB w h K) : DefAt K mg "_law_changed" s_L_changed := by
  obtain ⟨fd, F⟩ := c.t.d.def_ 26 (d := d_L_changed) rfl
  exact ⟨_, fd, F, He.glo_ok X G (c.t.d.fact 26 (f := .glo "_law_changed") rfl)⟩
theorem at_L_class (X : K.In h) (G : h.Ns mainGlobals mg) (c : SaysX fa fn [] tf exB w h K) : DefAt K mg "_law_class" s_L_class := by
  obtain ⟨fd, F⟩ := c.t.d.def_ 27 (d := d_L_class) rfl
  exact ⟨_, fd, F, He.glo_ok X G (c.t.d.fact 27 (f := .glo "_law_class") rfl)⟩
theorem at_L_told (X : K.In h) (G : h.Ns mainGlobals mg) (c : SaysX fa fn [] tf exB w h K) : DefAt K mg "_law_told" s_L_told := by
  obtain ⟨fd, F⟩ := c.t.d.def_ 28 (d := d_L_told) rfl
  exact ⟨_, fd, F, He.glo_ok X G (c.t.d.fact 28 (f := .glo "_law_told") rfl)⟩
theorem at_L_change (X : K.In h) (G : h.Ns mainGlobals mg) (c : SaysX fa fn [] tf exB w h K) : DefAt K mg "_law_change" s_L_change := by
  obtain ⟨fd, F⟩ := c.t.d.def_ 29 (d := d_L_change) rfl
  exact ⟨_, fd, F, He.glo_ok X G (c.t.d.fact 29 (f := .glo "_law_change") rfl)⟩
theorem at_L_do (X : K.In h) (G : h.Ns mainGlobals mg) (c : SaysX fa fn [] tf exB w h K) : DefAt K mg "_law_do" s_L_do := by
  obtain ⟨fd, F⟩ := c.t.d.def_ 30 (d := d_L_do) rfl
  exact ⟨_, fd, F, He.glo_ok X G (c.t.d.fact 30 (f := .glo "_law_do") rfl)⟩
theorem at_L_is_so (X : K.In h) (G : h.Ns mainGlobals mg) (c : SaysX fa fn [] tf exB w h K) : DefAt K mg "_law_is_so" s_L_is_so := by
  obtain ⟨fd, F⟩ := c.t.d.def_ 31 (d := d_L_is_so) rfl
  exact ⟨_, fd, F, He.glo_ok X G (c.t.d.fact 31 (f := .glo "_law_is_so") rfl)⟩
theorem at_L_likes_right (X : K.In h) (G : h.Ns mainGlobals mg) (c : SaysX fa fn [] tf exB w h K) : DefAt K mg "_law_likes_right" s_L_likes_right := by
  obtain ⟨fd, F⟩ := c.t.d.def_ 32 (d := d_L_likes_right) rfl
  exact ⟨_, fd, F, He.glo_ok X G (c.t.d.fact 32 (f := .glo "_law_likes_right") rfl)⟩
theorem at_L_many_undone (X : K.In h) (G : h.Ns mainGlobals mg) (c : SaysX fa fn [] tf exB w h K) : DefAt K mg "_law_many_undone" s_L_many_undone := by
  obtain ⟨fd, F⟩ := c.t.d.def_ 33 (d := d_L_many_undone) rfl
  exact ⟨_, fd, F, He.glo_ok X G (c.t.d.fact 33 (f := .glo "_law_many_undone") rfl)⟩
theorem at_row_rankings (c : SaysX fa fn [] tf exB w h K) : MethAt K (ga K "LiveRow") "rankings" "LiveRow.rankings" s_row_rankings := by
  obtain ⟨fd, F⟩ := c.t.d.def_ 40 (d := d_row_rankings) rfl
  exact ⟨_, fd, F, He.meth_ok (c.t.d.fact 62 (f := .meth "LiveRow" "rankings") rfl)⟩
theorem at_row_arrangement (c : SaysX fa fn [] tf exB w h K) : MethAt K (ga K "LiveRow") "arrangement" "LiveRow.arrangement" s_row_arrangement := by
  obtain ⟨fd, F⟩ := c.t.d.def_ 41 (d := d_row_arrangement) rfl
  exact ⟨_, fd, F, He.meth_ok (c.t.d.fact 63 (f := .meth "LiveRow" "arrangement") rfl)⟩
theorem at_row_allowed (c : SaysX fa fn [] tf exB w h K) : MethAt K (ga K "LiveRow") "allowed" "LiveRow.allowed" s_row_allowed := by
  obtain ⟨fd, F⟩ := c.t.d.def_ 42 (d := d_row_allowed) rfl
  exact ⟨_, fd, F, He.meth_ok (c.t.d.fact 64 (f := .meth "LiveRow" "allowed") rfl)⟩
theorem at_row_record (c : SaysX fa fn [] tf exB w h K) : MethAt K (ga K "LiveRow") "record" "LiveRow.record" s_row_record := by
  obtain ⟨fd, F⟩ := c.t.d.def_ 43 (d := d_row_record) rfl
  exact ⟨_, fd, F, He.meth_ok (c.t.d.fact 65 (f := .meth "LiveRow" "record") rfl)⟩
theorem at_row_swap (c : SaysX fa fn [] tf exB w h K) : MethAt K (ga K "LiveRow") "swap" "LiveRow.swap" s_row_swap := by
  obtain ⟨fd, F⟩ := c.t.d.def_ 44 (d := d_row_swap) rfl
  exact ⟨_, fd, F, He.meth_ok (c.t.d.fact 66 (f := .meth "LiveRow" "swap") rfl)⟩
theorem at_row_rerank (c : SaysX fa fn [] tf exB w h K) : MethAt K (ga K "LiveRow") "rerank" "LiveRow.rerank" s_row_rerank := by
  obtain ⟨fd, F⟩ := c.t.d.def_ 45 (d := d_row_rerank) rfl
  exact ⟨_, fd, F, He.meth_ok (c.t.d.fact 67 (f := .meth "LiveRow" "rerank") rfl)⟩
theorem at_row_undo (c : SaysX fa fn [] tf exB w h K) : MethAt K (ga K "LiveRow") "undo" "LiveRow.undo" s_row_undo := by
  obtain ⟨fd, F⟩ := c.t.d.def_ 46 (d := d_row_undo) rfl
  exact ⟨_, fd, F, He.meth_ok (c.t.d.fact 68 (f := .meth "LiveRow" "undo") rfl)⟩
theorem at_row_log (c : SaysX fa fn [] tf exB w h K) : MethAt K (ga K "LiveRow") "log" "LiveRow.log" s_row_log := by
  obtain ⟨fd, F⟩ := c.t.d.def_ 47 (d := d_row_log) rfl
  exact ⟨_, fd, F, He.meth_ok (c.t.d.fact 69 (f := .meth "LiveRow" "log") rfl)⟩
theorem at_row_copy (c : SaysX fa fn [] tf exB w h K) : MethAt K (ga K "LiveRow") "copy" "LiveRow.copy" s_row_copy := by
  obtain ⟨fd, F⟩ := c.t.d.def_ 48 (d := d_row_copy) rfl
  exact ⟨_, fd, F, He.meth_ok (c.t.d.fact 70 (f := .meth "LiveRow" "copy") rfl)⟩
theorem at_row_len (c : SaysX fa fn [] tf exB w h K) : MethAt K (ga K "LiveRow") "__len__" "LiveRow.__len__" s_row_len := by
  obtain ⟨fd, F⟩ := c.t.d.def_ 49 (d := d_row_len) rfl
  exact ⟨_, fd, F, He.meth_ok (c.t.d.fact 71 (f := .meth "LiveRow" "__len__") rfl)⟩
theorem at_row_eq (c : SaysX fa fn [] tf exB w h K) : MethAt K (ga K "LiveRow") "__eq__" "LiveRow.__eq__" s_row_eq := by
  obtain ⟨fd, F⟩ := c.t.d.def_ 50 (d := d_row_eq) rfl
  exact ⟨_, fd, F, He.meth_ok (c.t.d.fact 72 (f := .meth "LiveRow" "__eq__") rfl)⟩
end
end Sw
set_option maxHeartbeats 4000000
/-! Swaprow: the law holds -/
namespace Sw
open PySem PySem.Spec PyProof.Rows L2 He
theorem df_of {P : Program} {w : World} {K : PySem.W.Frag} {mg : Str → Option Value} {base : Heap} {k : Nat} {x : Str} {ps : List Str} {sp : Sp} {f : Addr} {fd : FuncData} {st : Stmt} (g : mg x = some (.ref f)) (F : FunD K x x (defArgs st) (defBody st) (defScope st) [] [] f fd)
    (h : ∀ (kV doc pm : Value) (an : Option Addr) (cdv ct : Value) (us : List Value), us.length = ps.length → bindArgs (PySem.W.fnOf x x (defArgs st) (defBody st) (defScope st) .none kV doc pm an cdv ct) ⟨us, []⟩ = pure (ps.zip us)) (ok : FnOk P w K mg base CX0 k f fd ps sp) : Df P w K mg base CX0 k x ps sp :=
  ⟨f, fd, g, F.kp, F.bindsN h, ok⟩
/-- the code objects of the two that make lambdas, their tables -/
abbrev csOf (K : PySem.W.Frag) : List (Addr × Addr) := tf.map (He.cT K)
abbrev tlOf (K : PySem.W.Frag) : List (Addr × Str) := [((He.cT K ("_law_many_undone", none)).2, qMany), ((He.cT K ("law", none)).2, qLaw)]
theorem code_of {K : PySem.W.Frag} {x : Str} {st : Stmt} {fd : FuncData} (F : FunD K x x (defArgs st) (defBody st) (defScope st) [] [] (fAd K (x, none)) fd) : fd.code = .ref (He.cT K (x, none)).1 := by
  obtain ⟨oc, od, dV, kV, doc, pm, an, cdv, ct, osl, rfl, lk, hcd, _, _⟩ := F.ex
  obtain ⟨c, rfl⟩ := He.codeIn_ref hcd
  have : He.codeOf K (x, none) = c := He.codeOf_eq lk rfl
  show Value.ref c = .ref (He.codeOf K (x, none))
  rw [this]
theorem law_ok {P : Program} {w : World} {K : PySem.W.Frag} {h : Heap} {mg : Str → Option Value} {base : Heap} (X : K.In h) (G : h.Ns mainGlobals mg) (c : SaysX fa fn [] tf exB w h K) (TB : ∀ p ∈ csOf K, LamX.TabB base mg p.1 p.2) :
    ∃ fd, FunD K "law" "law" (defArgs s_law) (defBody s_law) (defScope s_law) [] [] (ga K "law") fd ∧ FnOk P w K mg base CX0 12 (ga K "law") fd ["_law_script"] (spLaw K (tlOf K)) := by
  have T := tx_ok X G c
  have tne := tabs_ne c
  have dInt := ok_is_integer (P := P) (w := w) (base := base) T (at_is_integer X G c)
  have dBel := ok_is_number_below (P := P) (w := w) (base := base) T (at_is_number_below X G c) dInt
  have dRk := ok_is_ranking (P := P) (w := w) (base := base) T (at_is_ranking X G c) dBel
  have dCR := ok_check_rankings (P := P) (w := w) (base := base) T (at_check_rankings X G c) dRk
  have eS := ok_eS (P := P) (w := w) (base := base) (A := adOf K) T (at_InvalidSwap c)
  have eP := ok_eP (P := P) (w := w) (base := base) (A := adOf K) T (at_InvalidPerson c)
  have eR := ok_eR (P := P) (w := w) (base := base) (A := adOf K) T (at_InvalidRankings c)
  have eN := ok_eN (P := P) (w := w) (base := base) (A := adOf K) T (at_NothingToUndo c)
  have dCP := ok_check_person (P := P) (w := w) (base := base) T (at_check_person X G c) dBel eP
  have dTb := ok_rank_tables (P := P) (w := w) (base := base) T (at_rank_tables X G c)
  have dCA := ok_check_arrangement (P := P) (w := w) (base := base) T (at_check_arrangement X G c) dBel
  have dCF := ok_check_fitting (P := P) (w := w) (base := base) T (at_check_fitting X G c) dCR dCA
  have dAT := ok_is_allowed_there (P := P) (w := w) (base := base) T (at_is_allowed_there X G c)
  have dAS := ok_allowed_swaps (P := P) (w := w) (base := base) T (at_allowed_swaps X G c) dCF dTb dAT
  have dSw := ok_swapped (P := P) (w := w) (base := base) T (at_swapped X G c)
  have rRk := ok_row_rankings (P := P) (w := w) (base := base) T (at_row_rankings c)
  have rAr := ok_row_arrangement (P := P) (w := w) (base := base) T (at_row_arrangement c)
  have rAl := ok_row_allowed (P := P) (w := w) (base := base) T (at_row_allowed c) dAS
  have rRc := ok_row_record (P := P) (w := w) (base := base) T (at_row_record c)
  have rLog := ok_row_log (P := P) (w := w) (base := base) T (at_row_log c)
  have rLen := ok_row_len (P := P) (w := w) (base := base) T (at_row_len c)
  have rEq := ok_row_eq (P := P) (w := w) (base := base) T (at_row_eq c) rRk rAr
  have rIn := ok_row_init (P := P) (w := w) (base := base) T (at_init c) dCR dCA
  have rSw := ok_row_swap (P := P) (w := w) (base := base) T (at_row_swap c) dBel rAl rRc dSw eS
  have rUn := ok_row_undo (P := P) (w := w) (base := base) T (at_row_undo c) eN
  have rRr := ok_row_rerank (P := P) (w := w) (base := base) T (at_row_rerank c) dCP dRk rRc eR
  have rCp := ok_row_copy (P := P) (w := w) (base := base) T (at_row_copy c) rIn
  have lMx := ok_mixed (P := P) (w := w) (base := base) (at_L_mixed X G c)
  have lFo := ok_folded (P := P) (w := w) (base := base) T (at_L_folded X G c)
  have lDr := ok_draw (P := P) (w := w) (base := base) T (at_L_draw X G c) lMx
  have lBe := ok_begun (P := P) (w := w) (base := base) T (at_L_begun X G c) lFo
  have lMu := ok_mixed_up (P := P) (w := w) (base := base) T (at_L_mixed_up X G c) lDr
  have lWa := ok_walked (P := P) (w := w) (base := base) T (at_L_walked X G c) lDr
  have lLi := ok_lists (P := P) (w := w) (base := base) T (at_L_lists X G c) lDr lMu lWa
  have lLk := ok_likes (P := P) (w := w) (base := base) T (at_L_likes X G c)
  have lMa := ok_may (P := P) (w := w) (base := base) T (at_L_may X G c) lLk
  have lAf := ok_after (P := P) (w := w) (base := base) T (at_L_after X G c)
  have lAn := ok_any_row (P := P) (w := w) (base := base) T (at_L_any_row X G c) lDr lMu lWa
  have lRe := ok_recorded (P := P) (w := w) (base := base) T (at_L_recorded X G c)
  have lIr := ok_is_ranked (P := P) (w := w) (base := base) T (at_L_is_ranked X G c)
  have lIb := ok_is_below (P := P) (w := w) (base := base) T (at_L_is_below X G c)
  have lEr := ok_error (P := P) (w := w) (base := base) T (at_L_error X G c) lIb lMa lIr
  have lCh := ok_changed (P := P) (w := w) (base := base) T (at_L_changed X G c) lEr lAf
  have lCl := ok_class (P := P) (w := w) (base := base) T (at_L_class X G c)
  have lDo := ok_do (P := P) (w := w) (base := base) T (at_L_do X G c) rSw rRr rUn
  have lCg := ok_change (P := P) (w := w) (base := base) T (at_L_change X G c) lDr lMu lMa
  have lIs := ok_is_so (P := P) (w := w) (base := base) T (at_L_is_so X G c) rRk rAr rAl rLog rLen lMa
  have lLr := ok_likes_right (P := P) (w := w) (base := base) T (at_L_likes_right X G c) rIn rEq (own_ok c) rLog
  obtain ⟨fdM, FM⟩ := c.t.d.def_ 33 (d := d_L_many_undone) rfl
  obtain ⟨fd, F⟩ := c.t.d.def_ 34 (d := d_law) rfl
  have okM := ok_many (P := P) (w := w) (A := adOf K) (TL := tlOf K) T FM (code_of (x := "_law_many_undone") (st := s_L_many_undone) FM) (TB _ (List.mem_map.mpr ⟨("_law_many_undone", none), by simp [tf], rfl⟩)) (by simp) (fun p hp e => by
    rcases List.mem_cons.mp hp with rfl | hp
    · rfl
    · rw [List.mem_singleton.mp hp] at e
      exact absurd e.symm tne) rIn lDr lMu rRr rUn rLog rRk (at_L_told X G c) lCl
  have dM := df_of (x := "_law_many_undone") (st := s_L_many_undone) (ps := ["_law_m", "_law_lists_here"]) (He.glo_ok X G (c.t.d.fact 33 (f := .glo "_law_many_undone") rfl)) FM (fun _ _ _ _ _ _ us hl => match us, hl with | [_, _], _ => rfl) okM
  refine ⟨fd, F, ok_law (A := adOf K) (TL := tlOf K) T F (code_of (x := "law") (st := s_law) F) (TB _ (List.mem_map.mpr ⟨("law", none), by simp [tf], rfl⟩)) (by simp) (fun p hp e => ?_) lBe dM lLi lDr lAn lRe rIn lCg lCh lIs lLr rCp rRk rAr lDo rUn (at_L_told X G c) lCl⟩
  rcases List.mem_cons.mp hp with rfl | hp
  · exact absurd e tne
  · rw [List.mem_singleton.mp hp]
end Sw
set_option maxHeartbeats 0
namespace Sw
open PySem PySem.Spec PyProof.Rows L2 He
theorem law_at {w : World} {h : Heap} {K : PySem.W.Frag} {mg : Str → Option Value} {f : Addr} (X : K.In h) (G : h.Ns mainGlobals mg) (hfa : mg ("law" : Str) = some (.ref f)) (c : SaysX fa fn [] tf exB w h K) :
    LamX.LawAtS PySem.Challenge.rw_swaprow_k60_whole_live_rows w K CX0 12 63 "_law_script" mg f h := by
  have e := hfa.symm.trans (He.glo_ok X G (c.t.d.fact 34 (f := .glo "law") rfl))
  cases e
  obtain ⟨fd, F⟩ := c.t.d.def_ 34 (d := d_law) rfl
  have b := FunD.bindsA (x := "law") (qual := "law") (params := defArgs s_law) (body := defBody s_law) (scope := defScope s_law) (ps := ["_law_script"]) F fun _ _ _ _ _ _ us hl => match us, hl with | [_], _ => rfl
  refine ⟨fd, csOf K, spLaw K (tlOf K), fun p hp => ?_, fun p hp => ?_, fun p hp => ?_, fun s u => b s [u] rfl, fun H a ns hl _ hT hS => ⟨a, ns, rfl, hS, hl, fun p hp => ?_, fun _ => rfl⟩, fun base Kb Gb TB => ?_⟩
  · obtain ⟨d, hd, rfl⟩ := List.mem_map.mp hp
    exact c.empty d hd
  · obtain ⟨d, hd, rfl⟩ := List.mem_map.mp hp
    exact c.out d hd
  · obtain ⟨d, hd, rfl⟩ := List.mem_map.mp hp
    exact PySem.W.codeHd_of_K X (c.hd d hd)
  · refine LamX.TabS.nil ?_
    rcases List.mem_cons.mp hp with rfl | hp
    · exact hT _ (List.mem_map.mpr ⟨("_law_many_undone", none), by simp [tf], rfl⟩)
    · rw [List.mem_singleton.mp hp]
      exact hT _ (List.mem_map.mpr ⟨("law", none), by simp [tf], rfl⟩)
  · obtain ⟨fd', F', ok⟩ := law_ok (P := (PySem.Challenge.rw_swaprow_k60_whole_live_rows).prog) (w := w) (base := base) X G c TB
    have : fd' = fd := by
      obtain ⟨_, _, _, _, _, _, _, _, _, _, e1, l1, _⟩ := F'.ex
      obtain ⟨_, _, _, _, _, _, _, _, _, _, e2, l2, _⟩ := F.ex
      rw [show fAd K d_law.at_ = ga K "law" from rfl, l1] at l2
      injection l2 with l2
      injection l2 with _ _ l2 _
      injection l2
    rw [← this]
    exact ok
end Sw
open PySem PySem.W PySem.Calls PyProof.Rows
theorem PySem.Challenge.cw_swaprow_k60_whole_live_rows_holds : PySem.Challenge.rw_swaprow_k60_whole_live_rows.Holds := by
  w_on; o_law
  refine HandSHeadRun.head_any (r := OpenLaw.row PySem.Challenge.rw_swaprow_k60_whole_live_rows) (q := view (OpenLaw.row PySem.Challenge.rw_swaprow_k60_whole_live_rows).prog [50]) (H := Sw.hk) (ob := Sw.ob) (M := 8000) (loose := Sw.loose) (d := HandSHeadRun.topDef (OpenLaw.row PySem.Challenge.rw_swaprow_k60_whole_live_rows).prog 50) (kwd := []) Sw.ob_eq
    (by kernel_rfl) (fun s => by kernel_rfl) Sw.run (by kernel_rfl) (by kernel_rfl) (by kernel_rfl) (by rfl) (by first | assumption | decide +kernel) (by decide +kernel) ⟨rfl, rfl, rfl, rfl, rfl, by decide +kernel⟩ ?hw ?hc
  case hw => w_witness2
  case hc =>
    refine LamX.walk_ofTsE (l := PySem.Challenge.rw_swaprow_k60_whole_live_rows) (n := 63) (k := 12) (x := "_law_script") (CX := fun _ => L2.CX0) rfl (by decide) (by kernel_rfl) ⟨rfl, by decide, by decide⟩ ?F (fun _ _ _ _ _ z => z)
    intro w mg fa h Y G hmg0
    obtain ⟨K, KX, c⟩ := Y
    have hmg : mg ("law" : PySem.Str) = some (.ref fa) := by
      have e : (HandSHeadRun.topDef (OpenLaw.row PySem.Challenge.rw_swaprow_k60_whole_live_rows).prog 50).name = ("law" : PySem.Str) := by kernel_rfl
      rw [← e]
      exact hmg0
    exact ⟨K, KX, Sw.law_at KX G hmg c⟩
