import PyProof.Rows.All
import Wide.All
import OpenK.AllK
import Wide.FinOn
import HandS.ForMost
import HandS.TupSets
import HandS.Strs
import HandS.SetFor
import KE.KSortTupG
import HandS.Deep
import KE.DatumOrd
import HandS.TupAny
import HandS.IsInst
import HandS.Conv
import HandS.Flow
import PySem.Challenge.RW_faultworks_k08_whole_kinds_of_systems
set_option Elab.async false
set_option linter.all false
set_option maxRecDepth 100000
set_option maxHeartbeats 8000000
namespace K8
/-! ### orders -/
/-- the order of lists by the first difference -/
def glt {α : Type} [DecidableEq α] (lt : α → α → Bool) : List α → List α → Bool
  | [], [] => false
  | [], _ :: _ => true
  | _ :: _, [] => false
  | x :: xs, y :: ys => if x = y then glt lt xs ys else lt x y
/-- of numbers, of lists of numbers -/
def ilt (x y : Int) : Bool := decide (x < y)
def llt (a b : List Int) : Bool := glt ilt a b
abbrev Sy := Int × List (List Int)
def pllt (a b : List (List Int)) : Bool := glt llt a b
def slt (s t : Sy) : Bool := if s.1 = t.1 then pllt s.2 t.2 else decide (s.1 < t.1)
def minS (x : Sy) (xs : List Sy) : Sy := xs.foldl (fun a y => if slt y a = true then y else a) x

/-- a strict total order -/
structure STO {α : Type} (lt : α → α → Bool) : Prop where
  irr : ∀ a, lt a a = false
  tr : ∀ a b c, lt a b = true → lt b c = true → lt a c = true
  tot : ∀ a b, lt a b = false → lt b a = false → a = b
theorem STO.asym {α : Type} {lt : α → α → Bool} (h : STO lt) {a b : α} (q : lt a b = true) : lt b a = false := by
  cases e : lt b a with
  | false => rfl
  | true =>
    have := h.tr a b a q e
    rw [h.irr] at this
    cases this
theorem STO.letr {α : Type} {lt : α → α → Bool} (h : STO lt) {a b c : α} (p : lt b a = false) (q : lt c b = false) : lt c a = false := by
  cases e : lt c a with
  | false => rfl
  | true =>
    cases e2 : lt a b with
    | true =>
      have := h.tr c a b e e2
      rw [q] at this
      cases this
    | false =>
      have := h.tot a b e2 p
      subst this
      rw [q] at e
      cases e
theorem sto_ilt : STO ilt where
  irr a := by unfold ilt; exact decide_eq_false (by omega)
  tr a b c h1 h2 := by
    unfold ilt at *
    have := of_decide_eq_true h1
    have := of_decide_eq_true h2
    exact decide_eq_true (by omega)
  tot a b h1 h2 := by
    unfold ilt at *
    have := of_decide_eq_false h1
    have := of_decide_eq_false h2
    omega
section
variable {α : Type} [DecidableEq α] {lt : α → α → Bool}
theorem glt_irr (h : STO lt) : ∀ a : List α, glt lt a a = false
  | [] => rfl
  | x :: a => by
    show (if x = x then glt lt a a else lt x x) = false
    rw [if_pos rfl, glt_irr h a]
theorem glt_tr (h : STO lt) : ∀ a b c : List α, glt lt a b = true → glt lt b c = true → glt lt a c = true
  | [], [], _, p, _ => (by cases p)
  | [], _ :: _, [], _, q => (by cases q)
  | [], _ :: _, _ :: _, _, _ => rfl
  | _ :: _, [], _, p, _ => (by cases p)
  | _ :: _, _ :: _, [], _, q => (by cases q)
  | x :: a, y :: b, z :: c, p, q => by
    have p' : (if x = y then glt lt a b else lt x y) = true := p
    have q' : (if y = z then glt lt b c else lt y z) = true := q
    show (if x = z then glt lt a c else lt x z) = true
    by_cases e1 : x = y
    · subst e1
      rw [if_pos rfl] at p'
      by_cases e2 : x = z
      · subst e2
        rw [if_pos rfl] at q' ⊢
        exact glt_tr h a b c p' q'
      · rw [if_neg e2] at q' ⊢
        exact q'
    · rw [if_neg e1] at p'
      by_cases e2 : y = z
      · subst e2
        rw [if_neg e1]
        exact p'
      · rw [if_neg e2] at q'
        have t := h.tr x y z p' q'
        by_cases e3 : x = z
        · subst e3
          rw [h.irr] at t
          cases t
        · rw [if_neg e3]
          exact t
theorem glt_tot (h : STO lt) : ∀ a b : List α, glt lt a b = false → glt lt b a = false → a = b
  | [], [], _, _ => rfl
  | [], _ :: _, p, _ => (by cases p)
  | _ :: _, [], _, q => (by cases q)
  | x :: a, y :: b, p, q => by
    have p' : (if x = y then glt lt a b else lt x y) = false := p
    have q' : (if y = x then glt lt b a else lt y x) = false := q
    by_cases e : x = y
    · subst e
      rw [if_pos rfl] at p' q'
      rw [glt_tot h a b p' q']
    · rw [if_neg e] at p'
      rw [if_neg fun z => e z.symm] at q'
      exact absurd (h.tot x y p' q') e
theorem sto_glt (h : STO lt) : STO (glt lt) := ⟨glt_irr h, glt_tr h, glt_tot h⟩
end
theorem sto_llt : STO llt := sto_glt sto_ilt
theorem sto_pllt : STO pllt := sto_glt sto_llt
theorem sto_slt : STO slt where
  irr s := by
    unfold slt
    rw [if_pos rfl]
    exact sto_pllt.irr _
  tr s t u p q := by
    unfold slt at *
    by_cases e1 : s.1 = t.1
    · rw [if_pos e1] at p
      by_cases e2 : t.1 = u.1
      · rw [if_pos e2] at q
        rw [if_pos (e1.trans e2)]
        exact sto_pllt.tr _ _ _ p q
      · rw [if_neg e2] at q
        rw [if_neg (by omega), e1]
        exact q
    · rw [if_neg e1] at p
      by_cases e2 : t.1 = u.1
      · rw [if_neg (by omega), ← e2]
        exact p
      · rw [if_neg e2] at q
        have h1 := of_decide_eq_true p
        have h2 := of_decide_eq_true q
        rw [if_neg (by omega)]
        exact decide_eq_true (by omega)
  tot s t p q := by
    unfold slt at *
    by_cases e : s.1 = t.1
    · rw [if_pos e] at p
      rw [if_pos e.symm] at q
      exact Prod.ext e (sto_pllt.tot _ _ p q)
    · rw [if_neg e] at p
      rw [if_neg fun z => e z.symm] at q
      have h1 := of_decide_eq_false p
      have h2 := of_decide_eq_false q
      omega

/-! ### sorting -/
section
variable {α : Type}
theorem perm_unique {le : α → α → Prop} (anti : ∀ a b, le a b → le b a → a = b) : ∀ l m : List α, l.Perm m → l.Pairwise le → m.Pairwise le → l = m
  | [], m, p, _, _ => (List.nil_perm.mp p).symm
  | x :: l, [], p, _, _ => absurd (List.perm_nil.mp p) (by simp)
  | x :: l, y :: m, p, hl, hm => by
    have e : x = y := by
      rcases List.mem_cons.mp (p.mem_iff.mp List.mem_cons_self) with e | h1
      · exact e
      · rcases List.mem_cons.mp (p.mem_iff.mpr (List.mem_cons_self (a := y) (l := m))) with e | h2
        · exact e.symm
        · exact anti x y (List.rel_of_pairwise_cons hl h2) (List.rel_of_pairwise_cons hm h1)
    subst e
    rw [perm_unique anti l m ((List.perm_cons x).mp p) (List.pairwise_cons.mp hl).2 (List.pairwise_cons.mp hm).2]
def ins (lt : α → α → Bool) (x : α) : List α → List α
  | [] => [x]
  | y :: l => if lt y x = true then y :: ins lt x l else x :: y :: l
def srt (lt : α → α → Bool) : List α → List α
  | [] => []
  | x :: l => ins lt x (srt lt l)
variable {lt : α → α → Bool}
theorem ins_perm (x : α) : ∀ l : List α, (ins lt x l).Perm (x :: l)
  | [] => List.Perm.refl _
  | y :: l => by
    unfold ins
    by_cases h : lt y x = true
    · rw [if_pos h]
      exact ((ins_perm x l).cons y).trans (List.Perm.swap x y l)
    · rw [if_neg h]
theorem srt_perm : ∀ l : List α, (srt lt l).Perm l
  | [] => List.Perm.refl _
  | x :: l => (ins_perm x _).trans ((srt_perm l).cons x)
theorem ins_sorted (h : STO lt) (x : α) : ∀ l : List α, l.Pairwise (fun a b => lt b a = false) → (ins lt x l).Pairwise (fun a b => lt b a = false)
  | [], _ => List.pairwise_singleton _ _
  | y :: l, p => by
    obtain ⟨p1, p2⟩ := List.pairwise_cons.mp p
    unfold ins
    by_cases e : lt y x = true
    · rw [if_pos e]
      refine List.pairwise_cons.mpr ⟨fun z hz => ?_, ins_sorted h x l p2⟩
      rcases List.mem_cons.mp ((ins_perm x l).mem_iff.mp hz) with q | q
      · subst q
        exact h.asym e
      · exact p1 z q
    · rw [if_neg e]
      have e' : lt y x = false := by simpa using e
      refine List.pairwise_cons.mpr ⟨fun z hz => ?_, p⟩
      rcases List.mem_cons.mp hz with q | q
      · subst q
        exact e'
      · exact h.letr e' (p1 z q)
theorem srt_sorted (h : STO lt) : ∀ l : List α, (srt lt l).Pairwise (fun a b => lt b a = false)
  | [] => List.Pairwise.nil
  | x :: l => ins_sorted h x _ (srt_sorted h l)
theorem srt_unique (h : STO lt) {l m : List α} (p : m.Perm l) (s : m.Pairwise (fun a b => lt b a = false)) : m = srt lt l :=
  perm_unique (fun a b p q => h.tot a b q p) m _ (p.trans (srt_perm l).symm) s (srt_sorted h l)
theorem srt_congr (h : STO lt) {l m : List α} (p : m.Perm l) : srt lt m = srt lt l := srt_unique h ((srt_perm m).trans p) (srt_sorted h m)
theorem srt_self (h : STO lt) {l : List α} (s : l.Pairwise (fun a b => lt b a = false)) : srt lt l = l := (srt_unique h (List.Perm.refl l) s).symm
theorem strict_of (h : STO lt) {l : List α} (s : l.Pairwise (fun a b => lt b a = false)) (n : l.Nodup) : l.Pairwise (fun a b => lt a b = true) := by
  refine (List.pairwise_iff_forall_sublist.mpr fun {a b} hab => ?_)
  have h1 := List.pairwise_iff_forall_sublist.mp s hab
  have h2 : a ≠ b := List.pairwise_iff_forall_sublist.mp n hab
  cases e : lt a b with
  | true => rfl
  | false => exact absurd (h.tot a b e h1) h2
theorem weak_of (h : STO lt) {l : List α} (s : l.Pairwise (fun a b => lt a b = true)) : l.Pairwise (fun a b => lt b a = false) := s.imp fun q => h.asym q
theorem nodup_of_strict (h : STO lt) {l : List α} (s : l.Pairwise (fun a b => lt a b = true)) : l.Nodup := s.imp fun {a b} q e => by
  subst e
  rw [h.irr] at q
  cases q
end
def srtI (l : List Int) : List Int := srt ilt l
def srtT (l : List (List Int)) : List (List Int) := srt llt l

/-! ### orders of parts -/
def rng (n : Nat) : List Int := (List.range n).map fun (i : Nat) => ((i : Nat) : Int)
theorem mem_rng {n : Nat} {x : Int} : x ∈ rng n ↔ 0 ≤ x ∧ x < n := by
  unfold rng
  rw [List.mem_map]
  constructor
  · rintro ⟨i, hi, rfl⟩
    have := List.mem_range.mp hi
    omega
  · intro h
    exact ⟨x.toNat, List.mem_range.mpr (by omega), by omega⟩
theorem rng_length (n : Nat) : (rng n).length = n := by simp [rng]
theorem rng_nodup (n : Nat) : (rng n).Nodup := by
  unfold rng
  exact List.Pairwise.map _ (fun (a b : Nat) (h : a ≠ b) (e : (a : Int) = (b : Int)) => h (by omega)) List.nodup_range
theorem rng_sorted (n : Nat) : (rng n).Pairwise (· < ·) := by
  unfold rng
  exact List.Pairwise.map _ (fun a b h => by omega) List.pairwise_lt_range
structure IsOrd (n : Nat) (o : List Int) : Prop where
  len : o.length = n
  nd : o.Nodup
  rg : ∀ x ∈ o, 0 ≤ x ∧ x < n
/-- all places are taken -/
theorem full : ∀ (l m : List Int), l.Nodup → (∀ x ∈ l, x ∈ m) → m.length ≤ l.length → ∀ x ∈ m, x ∈ l
  | [], m, _, _, h3, x, hx => by
    have : m = [] := List.length_eq_zero_iff.mp (by simpa using h3)
    rw [this] at hx
    cases hx
  | a :: l, m, h1, h2, h3, x, hx => by
    obtain ⟨n1, n2⟩ := List.nodup_cons.mp h1
    have ha : a ∈ m := h2 a List.mem_cons_self
    by_cases e : x = a
    · rw [e]
      exact List.mem_cons_self
    · have := full l (m.erase a) n2 (fun y hy => (List.mem_erase_of_ne fun z : y = a => n1 (by rw [← z]; exact hy)).mpr (h2 y (List.mem_cons_of_mem _ hy))) (by
        rw [List.length_erase_of_mem ha]
        simp only [List.length_cons] at h3
        omega) x ((List.mem_erase_of_ne e).mpr hx)
      exact List.mem_cons_of_mem _ this
theorem IsOrd.all {n : Nat} {o : List Int} (h : IsOrd n o) {x : Int} (h0 : 0 ≤ x) (h1 : x < n) : x ∈ o :=
  full o (rng n) h.nd (fun y hy => mem_rng.mpr (h.rg y hy)) (by rw [rng_length, h.len]; exact Nat.le_refl _) x (mem_rng.mpr ⟨h0, h1⟩)
theorem IsOrd.perm {n : Nat} {o : List Int} (h : IsOrd n o) : o.Perm (rng n) :=
  (List.perm_ext_iff_of_nodup h.nd (rng_nodup n)).mpr fun x => ⟨fun hx => mem_rng.mpr (h.rg x hx), fun hx => by
    obtain ⟨h0, h1⟩ := mem_rng.mp hx
    exact h.all h0 h1⟩
theorem isOrd_rng (n : Nat) : IsOrd n (rng n) := ⟨rng_length n, rng_nodup n, fun x hx => mem_rng.mp hx⟩
/-- an order that is laid by one more part -/
theorem ins_order {n : Nat} {o : List Int} (h : IsOrd n o) (j : Nat) : IsOrd (n + 1) (o.take j ++ (n : Int) :: o.drop j) := by
  have p : (o.take j ++ (n : Int) :: o.drop j).Perm ((n : Int) :: o) := by
    refine List.perm_middle.trans ?_
    rw [List.take_append_drop]
  refine ⟨by rw [p.length_eq, List.length_cons, h.len], p.nodup_iff.mpr (List.nodup_cons.mpr ⟨fun hm => ?_, h.nd⟩), fun x hx => ?_⟩
  · have := (h.rg _ hm).2
    omega
  · rcases List.mem_cons.mp (p.mem_iff.mp hx) with e | hm
    · omega
    · have := h.rg x hm
      omega
/-- the program's and the law's list of all orders -/
def more (n : Nat) (some : List Int) : List (List Int) := ((rng n).filter fun k => !some.contains k).map fun k => some ++ [k]
def ords (n : Nat) : Nat → List (List Int)
  | 0 => [[]]
  | j + 1 => (ords n j).flatMap (more n)
theorem mem_ords {n : Nat} : ∀ {j : Nat} {o : List Int}, o ∈ ords n j ↔ o.length = j ∧ o.Nodup ∧ ∀ x ∈ o, 0 ≤ x ∧ x < n
  | 0, o => by
    constructor
    · intro h
      have : o = [] := by simpa [ords] using h
      subst this
      exact ⟨rfl, List.nodup_nil, fun x hx => by cases hx⟩
    · rintro ⟨h, _⟩
      have : o = [] := List.length_eq_zero_iff.mp h
      subst this
      simp [ords]
  | j + 1, o => by
    constructor
    · intro h
      obtain ⟨p, hp, ho⟩ := List.mem_flatMap.mp (show o ∈ (ords n j).flatMap (more n) from h)
      obtain ⟨h1, h2, h3⟩ := mem_ords.mp hp
      obtain ⟨k, hk, e⟩ := List.mem_map.mp ho
      obtain ⟨k1, k2⟩ := List.mem_filter.mp hk
      have k3 : k ∉ p := by simpa using k2
      subst e
      refine ⟨by simp [h1], ?_, fun x hx => ?_⟩
      · rw [List.nodup_append]
        refine ⟨h2, by simp, fun a ha b hb => ?_⟩
        have : b = k := by simpa using hb
        subst this
        exact fun e => k3 (e ▸ ha)
      · rcases List.mem_append.mp hx with z | z
        · exact h3 x z
        · have : x = k := by simpa using z
          subst this
          exact mem_rng.mp k1
    · rintro ⟨h1, h2, h3⟩
      have hne : o ≠ [] := fun e => by rw [e] at h1; simp at h1
      have e := List.dropLast_concat_getLast hne
      have hl : o.dropLast.length = j := by rw [List.length_dropLast, h1]; rfl
      rw [← e] at h2
      rw [List.nodup_append] at h2
      refine List.mem_flatMap.mpr ⟨o.dropLast, mem_ords.mpr ⟨hl, h2.1, fun x hx => h3 x (List.dropLast_subset o hx)⟩, ?_⟩
      refine List.mem_map.mpr ⟨o.getLast hne, List.mem_filter.mpr ⟨mem_rng.mpr (h3 _ (List.getLast_mem hne)), ?_⟩, e⟩
      have : o.getLast hne ∉ o.dropLast := fun hm => h2.2.2 _ hm _ (by simp) rfl
      simpa using this
theorem mem_all {n : Nat} {o : List Int} : o ∈ ords n n ↔ IsOrd n o := mem_ords.trans ⟨fun h => ⟨h.1, h.2.1, h.2.2⟩, fun h => ⟨h.len, h.nd, h.rg⟩⟩
theorem ords_ne (n : Nat) : ords n n ≠ [] := fun e => by
  have := mem_all.mpr (isOrd_rng n)
  rw [e] at this
  cases this
end K8

namespace K8
/-! ### systems and renaming -/
def get (o : List Int) (k : Int) : Int := o.getD k.toNat 0
def turn (s : Sy) (o : List Int) : Sy := (s.1, srtT (s.2.map fun ps => srtI (ps.map (get o))))
/-- the sets of a system of n parts -/
structure Sets (n : Nat) (pss : List (List Int)) : Prop where
  asc : ∀ ps ∈ pss, ps.Pairwise (· < ·)
  rg : ∀ ps ∈ pss, ∀ k ∈ ps, 0 ≤ k ∧ k < n
  ord : pss.Pairwise (fun a b => llt a b = true)
  anti : ∀ a ∈ pss, ∀ b ∈ pss, (∀ k ∈ a, k ∈ b) → a = b
structure Valid (n : Nat) (s : Sy) : Prop where
  many : s.1 = n
  lo : 1 ≤ n
  hi : n ≤ 5
  sets : Sets n s.2
  few : s.2.length ≤ 6

theorem asc_le {l : List Int} (h : l.Pairwise (· < ·)) : l.Pairwise (fun a b => ilt b a = false) := h.imp fun {a b} q => by
  unfold ilt
  exact decide_eq_false (by omega)
theorem asc_nodup {l : List Int} (h : l.Pairwise (· < ·)) : l.Nodup := h.imp fun {a b} q e => by omega
theorem srtI_asc {l : List Int} (h : l.Nodup) : (srtI l).Pairwise (· < ·) :=
  (strict_of sto_ilt (srt_sorted sto_ilt l) ((srt_perm l).nodup_iff.mpr h)).imp fun q => of_decide_eq_true q
theorem srtI_perm (l : List Int) : (srtI l).Perm l := srt_perm l
theorem srtT_perm (l : List (List Int)) : (srtT l).Perm l := srt_perm l
theorem srtI_self {l : List Int} (h : l.Pairwise (· < ·)) : srtI l = l := srt_self sto_ilt (asc_le h)
theorem srtI_congr {l m : List Int} (h : l.Perm m) : srtI l = srtI m := srt_congr sto_ilt h
theorem srtT_congr {l m : List (List Int)} (h : l.Perm m) : srtT l = srtT m := srt_congr sto_llt h
theorem srtT_self {l : List (List Int)} (h : l.Pairwise (fun a b => llt a b = true)) : srtT l = l := srt_self sto_llt (weak_of sto_llt h)

theorem get_at {n : Nat} {o : List Int} (h : IsOrd n o) {k : Int} (h0 : 0 ≤ k) (h1 : k < n) : o[k.toNat]? = some (get o k) := by
  have hk : k.toNat < o.length := by rw [h.len]; omega
  unfold get
  rw [List.getD_eq_getElem?_getD, List.getElem?_eq_getElem hk]
  rfl
theorem get_rg {n : Nat} {o : List Int} (h : IsOrd n o) {k : Int} (h0 : 0 ≤ k) (h1 : k < n) : 0 ≤ get o k ∧ get o k < n :=
  h.rg _ (List.mem_of_getElem? (get_at h h0 h1))
theorem get_inj {n : Nat} {o : List Int} (h : IsOrd n o) {j k : Int} (hj : 0 ≤ j ∧ j < n) (hk : 0 ≤ k ∧ k < n) (e : get o j = get o k) : j = k := by
  have a := get_at h hj.1 hj.2
  have b := get_at h hk.1 hk.2
  rw [e] at a
  obtain ⟨h1, e1⟩ := List.getElem?_eq_some_iff.mp a
  obtain ⟨h2, e2⟩ := List.getElem?_eq_some_iff.mp b
  have := (List.getElem_inj h.nd).mp (e1.trans e2.symm)
  omega
theorem get_rng {n : Nat} {k : Int} (h0 : 0 ≤ k) (h1 : k < n) : get (rng n) k = k := by
  have a := get_at (isOrd_rng n) h0 h1
  have hk : k.toNat < n := by omega
  have e : (rng n)[k.toNat]? = some ((k.toNat : Nat) : Int) := by
    unfold rng
    rw [List.getElem?_map, List.getElem?_range hk]
    rfl
  rw [e] at a
  have := Option.some.inj a
  omega
/-- o, then p -/
def comp (o p : List Int) : List Int := o.map (get p)
theorem get_comp {n : Nat} {o p : List Int} (h : IsOrd n o) {k : Int} (h0 : 0 ≤ k) (h1 : k < n) : get (comp o p) k = get p (get o k) := by
  have a := get_at h h0 h1
  unfold comp
  conv => lhs; unfold get
  rw [List.getD_eq_getElem?_getD, List.getElem?_map, a]
  rfl
theorem nodup_map {f : Int → Int} {l : List Int} (h : l.Nodup) (hf : ∀ a ∈ l, ∀ b ∈ l, f a = f b → a = b) : (l.map f).Nodup := by
  unfold List.Nodup at *
  rw [List.pairwise_map]
  exact List.Pairwise.imp_of_mem (fun {a b} ha hb hne e => hne (hf a ha b hb e)) h
theorem isOrd_comp {n : Nat} {o p : List Int} (h : IsOrd n o) (g : IsOrd n p) : IsOrd n (comp o p) := by
  refine ⟨by unfold comp; rw [List.length_map, h.len], nodup_map h.nd fun a ha b hb e => get_inj g (h.rg a ha) (h.rg b hb) e, fun x hx => ?_⟩
  obtain ⟨k, hk, e⟩ := List.mem_map.mp hx
  rw [← e]
  exact get_rg g (h.rg k hk).1 (h.rg k hk).2
/-- the order back -/
def back (n : Nat) (o : List Int) : List Int := (rng n).map fun i => ((o.idxOf i : Nat) : Int)
theorem isOrd_back {n : Nat} {o : List Int} (h : IsOrd n o) : IsOrd n (back n o) := by
  refine ⟨by unfold back; rw [List.length_map, rng_length], nodup_map (rng_nodup n) fun a ha b hb e => ?_, fun x hx => ?_⟩
  · obtain ⟨a0, a1⟩ := mem_rng.mp ha
    obtain ⟨b0, b1⟩ := mem_rng.mp hb
    have e' : o.idxOf a = o.idxOf b := by omega
    have h1 := List.getElem_idxOf (List.idxOf_lt_length_of_mem (h.all a0 a1))
    have h2 := List.getElem_idxOf (List.idxOf_lt_length_of_mem (h.all b0 b1))
    rw [← h1, ← h2]
    congr 1
  · obtain ⟨k, hk, e⟩ := List.mem_map.mp hx
    obtain ⟨k0, k1⟩ := mem_rng.mp hk
    have := List.idxOf_lt_length_of_mem (h.all k0 k1)
    rw [h.len] at this
    rw [← e]
    omega
theorem get_back {n : Nat} {o : List Int} (h : IsOrd n o) {k : Int} (h0 : 0 ≤ k) (h1 : k < n) : get (back n o) (get o k) = k := by
  obtain ⟨g0, g1⟩ := get_rg h h0 h1
  have a := get_at h h0 h1
  have b := get_at (isOrd_back h) g0 g1
  have e : (rng n)[(get o k).toNat]? = some (get o k) := by
    have := get_at (isOrd_rng n) g0 g1
    rw [get_rng g0 g1] at this
    exact this
  have b2 : (back n o)[(get o k).toNat]? = some ((o.idxOf (get o k) : Nat) : Int) := by
    unfold back
    rw [List.getElem?_map, e]
    rfl
  have b3 : get (back n o) (get o k) = ((o.idxOf (get o k) : Nat) : Int) := Option.some.inj (b.symm.trans b2)
  obtain ⟨h2, e2⟩ := List.getElem?_eq_some_iff.mp a
  have h3 := List.getElem_idxOf (List.idxOf_lt_length_of_mem (List.mem_of_getElem? a))
  have h4 : o.idxOf (get o k) = k.toNat := (List.getElem_inj h.nd).mp (h3.trans e2.symm)
  rw [b3, h4]
  omega
theorem list_rng {n : Nat} {o : List Int} (hl : o.length = n) (h : ∀ k : Int, 0 ≤ k → k < n → get o k = k) : o = rng n := by
  refine List.ext_getElem? fun i => ?_
  by_cases hi : i < n
  · have h1 := h (i : Int) (by omega) (by omega)
    have h2 := get_at (isOrd_rng n) (k := (i : Int)) (by omega) (by omega)
    rw [get_rng (by omega) (by omega)] at h2
    have e : ((i : Int)).toNat = i := by omega
    rw [e] at h2
    rw [h2]
    unfold get at h1
    rw [e, List.getD_eq_getElem?_getD, List.getElem?_eq_getElem (by omega)] at h1
    rw [List.getElem?_eq_getElem (by omega)]
    exact congrArg some h1
  · rw [List.getElem?_eq_none (by omega), List.getElem?_eq_none (by rw [rng_length]; omega)]
theorem comp_back {n : Nat} {o : List Int} (h : IsOrd n o) : comp o (back n o) = rng n :=
  list_rng (isOrd_comp h (isOrd_back h)).len fun k h0 h1 => by rw [get_comp h h0 h1, get_back h h0 h1]

/-! ### renaming keeps a system a system -/
theorem sub_map {n : Nat} {o : List Int} (h : IsOrd n o) {a b : List Int} (ha : ∀ k ∈ a, 0 ≤ k ∧ k < n) (hb : ∀ k ∈ b, 0 ≤ k ∧ k < n) (hs : ∀ k ∈ srtI (a.map (get o)), k ∈ srtI (b.map (get o))) : ∀ k ∈ a, k ∈ b := by
  intro k hk
  have h1 := hs (get o k) ((srtI_perm _).mem_iff.mpr (List.mem_map.mpr ⟨k, hk, rfl⟩))
  obtain ⟨j, hj, e⟩ := List.mem_map.mp ((srtI_perm _).mem_iff.mp h1)
  rw [← get_inj h (hb j hj) (ha k hk) e]
  exact hj
theorem ren_inj {n : Nat} {o : List Int} (h : IsOrd n o) {pss : List (List Int)} (v : Sets n pss) : ∀ a ∈ pss, ∀ b ∈ pss, (∀ k ∈ srtI (a.map (get o)), k ∈ srtI (b.map (get o))) → a = b :=
  fun a ha b hb hs => v.anti a ha b hb (sub_map h (v.rg a ha) (v.rg b hb) hs)
theorem turn_sets {n : Nat} {o : List Int} (h : IsOrd n o) {pss : List (List Int)} (v : Sets n pss) : Sets n (srtT (pss.map fun ps => srtI (ps.map (get o)))) := by
  have mem : ∀ a, a ∈ srtT (pss.map fun ps => srtI (ps.map (get o))) → ∃ ps ∈ pss, a = srtI (ps.map (get o)) := fun a ha => by
    obtain ⟨ps, hp, e⟩ := List.mem_map.mp ((srtT_perm _).mem_iff.mp ha)
    exact ⟨ps, hp, e.symm⟩
  have nd : pss.Nodup := nodup_of_strict sto_llt v.ord
  refine ⟨fun a ha => ?_, fun a ha k hk => ?_, ?_, fun a ha b hb hs => ?_⟩
  · obtain ⟨ps, hp, rfl⟩ := mem a ha
    exact srtI_asc (nodup_map (asc_nodup (v.asc ps hp)) fun x hx y hy e => get_inj h (v.rg ps hp x hx) (v.rg ps hp y hy) e)
  · obtain ⟨ps, hp, rfl⟩ := mem a ha
    obtain ⟨j, hj, e⟩ := List.mem_map.mp ((srtI_perm _).mem_iff.mp hk)
    rw [← e]
    exact get_rg h (v.rg ps hp j hj).1 (v.rg ps hp j hj).2
  · refine strict_of sto_llt (srt_sorted sto_llt _) ((srtT_perm _).nodup_iff.mpr ?_)
    unfold List.Nodup at *
    rw [List.pairwise_map]
    exact List.Pairwise.imp_of_mem (fun {a b} ha hb hne e => hne (ren_inj h v a ha b hb fun k hk => by rw [← e]; exact hk)) nd
  · obtain ⟨ps, hp, rfl⟩ := mem a ha
    obtain ⟨qs, hq, rfl⟩ := mem b hb
    rw [ren_inj h v ps hp qs hq hs]
theorem turn_valid {n : Nat} {o : List Int} (h : IsOrd n o) {s : Sy} (v : Valid n s) : Valid n (turn s o) :=
  ⟨v.many, v.lo, v.hi, turn_sets h v.sets, by
    show (srtT _).length ≤ 6
    rw [(srtT_perm _).length_eq, List.length_map]
    exact v.few⟩
theorem turn_len (s : Sy) (o : List Int) : (turn s o).2.length = s.2.length := by
  show (srtT _).length = _
  rw [(srtT_perm _).length_eq, List.length_map]
theorem turn_turn {n : Nat} {o p : List Int} (h : IsOrd n o) {s : Sy} (v : Valid n s) : turn (turn s o) p = turn s (comp o p) := by
  refine Prod.ext rfl ?_
  show srtT ((srtT (s.2.map fun ps => srtI (ps.map (get o)))).map fun ps => srtI (ps.map (get p))) = srtT (s.2.map fun ps => srtI (ps.map (get (comp o p))))
  rw [srtT_congr ((srtT_perm (s.2.map fun ps => srtI (ps.map (get o)))).map fun ps => srtI (ps.map (get p))), List.map_map]
  congr 1
  refine List.map_congr_left fun ps hp => ?_
  show srtI ((srtI (ps.map (get o))).map (get p)) = srtI (ps.map (get (comp o p)))
  rw [srtI_congr ((srtI_perm (ps.map (get o))).map (get p)), List.map_map]
  congr 1
  refine List.map_congr_left fun k hk => ?_
  obtain ⟨h0, h1⟩ := v.sets.rg ps hp k hk
  rw [get_comp h h0 h1]
  rfl
theorem turn_rng {n : Nat} {s : Sy} (v : Valid n s) : turn s (rng n) = s := by
  refine Prod.ext rfl ?_
  show srtT (s.2.map fun ps => srtI (ps.map (get (rng n)))) = s.2
  have e : (s.2.map fun ps => srtI (ps.map (get (rng n)))) = s.2 := by
    conv => rhs; rw [← List.map_id s.2]
    refine List.map_congr_left fun ps hp => ?_
    have e2 : ps.map (get (rng n)) = ps := by
      conv => rhs; rw [← List.map_id ps]
      exact List.map_congr_left fun k hk => get_rng (v.sets.rg ps hp k hk).1 (v.sets.rg ps hp k hk).2
    rw [e2, srtI_self (v.sets.asc ps hp)]
    rfl
  rw [e, srtT_self v.sets.ord]

/-! ### least names -/
def least : List Sy → Sy
  | [] => (0, [])
  | x :: xs => minS x xs
theorem minS_spec : ∀ (xs : List Sy) (x : Sy), minS x xs ∈ x :: xs ∧ ∀ y ∈ x :: xs, slt y (minS x xs) = false
  | [], x => ⟨List.mem_singleton.mpr rfl, fun y hy => by
    rw [List.mem_singleton.mp hy]
    exact sto_slt.irr x⟩
  | z :: xs, x => by
    have e : minS x (z :: xs) = minS (if slt z x = true then z else x) xs := rfl
    rw [e]
    by_cases h : slt z x = true
    · rw [if_pos h]
      obtain ⟨h1, h2⟩ := minS_spec xs z
      refine ⟨List.mem_cons_of_mem _ h1, fun y hy => ?_⟩
      rcases List.mem_cons.mp hy with q | q
      · subst q
        exact sto_slt.letr (h2 z List.mem_cons_self) (sto_slt.asym h)
      · exact h2 y q
    · rw [if_neg h]
      have h' : slt z x = false := by simpa using h
      obtain ⟨h1, h2⟩ := minS_spec xs x
      refine ⟨?_, fun y hy => ?_⟩
      · rcases List.mem_cons.mp h1 with q | q
        · rw [q]
          exact List.mem_cons_self
        · exact List.mem_cons_of_mem _ (List.mem_cons_of_mem _ q)
      · rcases List.mem_cons.mp hy with q | q
        · subst q
          exact h2 y List.mem_cons_self
        · rcases List.mem_cons.mp q with r | r
          · subst r
            exact sto_slt.letr (h2 x List.mem_cons_self) h'
          · exact h2 y (List.mem_cons_of_mem _ r)
theorem least_spec {l : List Sy} (hne : l ≠ []) : least l ∈ l ∧ ∀ y ∈ l, slt y (least l) = false := by
  cases l with
  | nil => exact absurd rfl hne
  | cons x xs => exact minS_spec xs x
theorem least_eq {l m : List Sy} (hl : l ≠ []) (hm : m ≠ []) (h : ∀ x, x ∈ l ↔ x ∈ m) : least l = least m := by
  obtain ⟨a1, a2⟩ := least_spec hl
  obtain ⟨b1, b2⟩ := least_spec hm
  exact sto_slt.tot _ _ (b2 _ ((h _).mp a1)) (a2 _ ((h _).mpr b1))
def nameOf (n : Nat) (s : Sy) : Sy := least ((ords n n).map (turn s))
theorem name_ne (n : Nat) (s : Sy) : (ords n n).map (turn s) ≠ [] := fun e => ords_ne n (List.map_eq_nil_iff.mp e)
theorem name_mem (n : Nat) (s : Sy) : ∃ o, IsOrd n o ∧ turn s o = nameOf n s := by
  obtain ⟨o, ho, e⟩ := List.mem_map.mp (least_spec (name_ne n s)).1
  exact ⟨o, mem_all.mp ho, e⟩
theorem name_kind {n : Nat} {s t : Sy} (v : Valid n s) (u : Valid n t) (e : nameOf n s = nameOf n t) : ∃ o ∈ ords n n, turn s o = t := by
  obtain ⟨p, hp, ep⟩ := name_mem n s
  obtain ⟨q, hq, eq⟩ := name_mem n t
  refine ⟨comp p (back n q), mem_all.mpr (isOrd_comp hp (isOrd_back hq)), ?_⟩
  rw [← turn_turn hp v, ep, e, ← eq, turn_turn hq u, comp_back hq, turn_rng u]
theorem kind_name {n : Nat} {s t : Sy} (v : Valid n s) {o : List Int} (ho : IsOrd n o) (e : turn s o = t) : nameOf n s = nameOf n t := by
  refine least_eq (name_ne n s) (name_ne n t) fun x => ⟨fun hx => ?_, fun hx => ?_⟩
  · obtain ⟨p, hp, ex⟩ := List.mem_map.mp hx
    refine List.mem_map.mpr ⟨comp (back n o) p, mem_all.mpr (isOrd_comp (isOrd_back ho) (mem_all.mp hp)), ?_⟩
    have vt : Valid n t := e ▸ turn_valid ho v
    rw [← turn_turn (isOrd_back ho) vt, ← e, turn_turn ho v, comp_back ho, turn_rng v]
    exact ex
  · obtain ⟨p, hp, ex⟩ := List.mem_map.mp hx
    refine List.mem_map.mpr ⟨comp o p, mem_all.mpr (isOrd_comp ho (mem_all.mp hp)), ?_⟩
    rw [← turn_turn ho v, e]
    exact ex
theorem name_fst (n : Nat) (s : Sy) : (nameOf n s).1 = s.1 := by
  obtain ⟨o, _, e⟩ := name_mem n s
  rw [← e]
  rfl
theorem name_len (n : Nat) (s : Sy) : (nameOf n s).2.length = s.2.length := by
  obtain ⟨o, _, e⟩ := name_mem n s
  rw [← e, turn_len]

/-! ### the law's least sets -/
theorem least_sets {n : Nat} {sets f : List (List Int)} (hs : ∀ ps ∈ sets, ps.Pairwise (· < ·) ∧ ∀ k ∈ ps, 0 ≤ k ∧ k < n)
    (hf : ∀ x ∈ f, x ∈ sets ∧ ∀ y ∈ sets, (∀ k ∈ y, k ∈ x) → y = x) (nd : f.Nodup) : Sets n (srtT f) := by
  have mem : ∀ {a}, a ∈ srtT f → a ∈ f := fun h => (srtT_perm f).mem_iff.mp h
  refine ⟨fun a ha => (hs a (hf a (mem ha)).1).1, fun a ha => (hs a (hf a (mem ha)).1).2, strict_of sto_llt (srt_sorted sto_llt f) ((srtT_perm f).nodup_iff.mpr nd), fun a ha b hb h => (hf b (mem hb)).2 a (hf a (mem ha)).1 h⟩
theorem ne_of_two {f : List (List Int)} (nd : f.Nodup) (anti : ∀ a ∈ f, ∀ b ∈ f, (∀ k ∈ a, k ∈ b) → a = b) (h2 : 2 ≤ f.length) : ∀ a ∈ f, a ≠ [] := by
  intro a ha e
  subst e
  match f, nd, anti, h2, ha with
  | x :: y :: r, nd, anti, _, ha =>
    have hx := anti [] ha x List.mem_cons_self fun k hk => by cases hk
    have hy := anti [] ha y (List.mem_cons_of_mem _ List.mem_cons_self) fun k hk => by cases hk
    have := (List.nodup_cons.mp nd).1
    exact this (by rw [← hx, ← hy]; exact List.mem_cons_self)
end K8

namespace K8
open PySem PySem.Spec PyProof.Rows L2
theorem lex_inl : ∀ a b : List Int, lexLt itemOrd (a.map Sum.inl) (b.map Sum.inl) = llt a b
  | [], [] => rfl
  | [], _ :: _ => rfl
  | _ :: _, [] => rfl
  | x :: a, y :: b => by
    show lexLt itemOrd (Sum.inl x :: a.map Sum.inl) (Sum.inl y :: b.map Sum.inl) = if x = y then llt a b else decide (x < y)
    by_cases h : x = y
    · subst h
      rw [if_pos rfl, lex_self (O := itemOrd), lex_inl a b]
    · rw [if_neg h, lex_diff (O := itemOrd) (fun e => h (Sum.inl.inj e))]
      rfl

/-! ### what a sort's end says -/
theorem sortK_out {κ : KeyKind} {vs : List Value} {xs : Array Keyed} (hp : xs.Perm (pairsOf vs)) (hs : SortedToK κ xs (pairsOf vs).size) :
    (xs.map (·.2)).toList.Perm vs ∧ (xs.map (·.2)).toList.Pairwise (fun u v => κ.blt ((κ.keyOf v).getD κ.dflt) ((κ.keyOf u).getD κ.dflt) = false) := by
  have pl := Array.perm_iff_toList_perm.mp hp
  rw [pairsOf_toList] at pl
  have same : ∀ q ∈ xs.toList, q.2 = q.1 := fun q hq => (mem_zip_self (pl.mem_iff.mp hq)).1.symm
  have ex : (xs.map (·.2)).toList = xs.toList.map Prod.fst := by rw [Array.toList_map]; exact List.map_congr_left same
  rw [ex]
  constructor
  · rw [show vs = (vs.zip vs).map Prod.fst by rw [List.map_fst_zip (Nat.le_refl _)]]
    exact pl.map Prod.fst
  · refine List.pairwise_iff_getElem.mpr fun i j hi hj hij => ?_
    rw [List.length_map, Array.length_toList] at hi hj
    have key : ∀ (m : Nat) (hm : m < xs.size), KK κ xs m = (κ.keyOf xs[m].1).getD κ.dflt := fun m hm => by unfold KK; rw [getElem?_pos xs m hm]
    have le := hs i j (Nat.le_of_lt hij) (hp.size_eq ▸ hj)
    rw [key i hi, key j hj] at le
    rw [List.getElem_map, List.getElem_map, Array.getElem_toList, Array.getElem_toList]
    exact le

theorem tupItems_ints : ∀ {vs : List Value} {ns : List Int} (i : Nat), IntsAre vs ns → tupItems (fun _ => false) i vs = some (ns.map Sum.inl)
  | _, _, i, .nil => rfl
  | _, _, i, .cons n t r => by
    rename_i vs ns
    show (if (false : Bool) = true then none else (tupItems (fun _ => false) (i + 1) vs).map (Sum.inl n :: ·)) = _
    rw [if_neg Bool.false_ne_true, tupItems_ints (i + 1) r]
    rfl
/-- a tuple's key -/
theorem tupKeyC_of {h : Heap} {a : Addr} {its : List Value} {ns : List Int} (hT : IsTup h a its.toArray) (hi : IntsAre its ns) : G.tupKeyC h (fun _ => false) (.ref a) = some (ns.map Sum.inl) := by
  obtain ⟨o, ho, hc, n, hd⟩ := hT
  unfold G.tupKeyC
  have h1 : G.isTupObj h (.ref a) = true := by
    unfold G.isTupObj
    simp only [ho, hc]
    rfl
  rw [if_pos h1]
  unfold tupKey
  simp only [ho, hd]
  exact tupItems_ints 0 hi

section
variable {X : Cx} {pins : List (Addr × Obj)} {σ : L2.St} {H : Hp} {s : Shared}
theorem tup_raw (I : Inv X pins σ H s) {t : Addr} {ns : List Int} (h : SqT X.K H t (ns.map V.int)) : ∃ its : List Value, IsTup s.heap t its.toArray ∧ IntsAre its ns := by
  obtain ⟨its, rv, hT, _⟩ := I.tuple h
  exact ⟨its, hT, rv.ints⟩
theorem tup_key (I : Inv X pins σ H s) {t : Addr} {ns : List Int} (h : SqT X.K H t (ns.map V.int)) : G.tupKeyC s.heap (fun _ => false) (.ref t) = some (ns.map Sum.inl) := by
  obtain ⟨its, h1, h2⟩ := tup_raw I h
  exact tupKeyC_of h1 h2
theorem tupOf_of {h : Heap} {t : Addr} {its : List Value} {ns : List Int} (hT : IsTup h t its.toArray) (hi : IntsAre its ns) (hne : ns ≠ []) : ∃ f, TupOf h (fun _ => false) (.ref t) f := by
  obtain ⟨o, ho, hc, n, hd⟩ := hT
  cases hi with
  | nil => exact absurd rfl hne
  | cons k tk r =>
    exact ⟨_, t, o, _, n, rfl, ho, hc, hd, rfl, fun _ => ⟨_, _, rfl⟩, fun z => absurd z (by decide)⟩
theorem tupsOf_of {h : Heap} : ∀ (vs : List Value), (∀ v ∈ vs, ∃ f, TupOf h (fun _ => false) v f) → ∃ fs, TupsOf h (fun _ => false) vs fs
  | [], _ => ⟨[], .nil⟩
  | v :: vs, hv => by
    obtain ⟨f, hf⟩ := hv v List.mem_cons_self
    obtain ⟨fs, hfs⟩ := tupsOf_of vs fun u hu => hv u (List.mem_cons_of_mem _ hu)
    exact ⟨f :: fs, .cons hf hfs⟩

/-- the addresses with their numbers, in some order -/
theorem order_refs (ks : List (Addr × List Int)) (hone : ∀ p ∈ ks, ∀ q ∈ ks, p.1 = q.1 → p = q) : ∀ out : List Value, out.Perm (ks.map fun p => Value.ref p.1) → ∃ ks' : List (Addr × List Int), out = ks'.map (fun p => Value.ref p.1) ∧ ks'.Perm ks := by
  intro out hp
  let f : Value → Addr × List Int := fun v => match v with
    | .ref a => (ks.find? fun p => p.1 == a).getD (0, [])
    | _ => (0, [])
  have hf : ∀ p ∈ ks, f (.ref p.1) = p := by
    intro p hm
    show (ks.find? fun q => q.1 == p.1).getD (0, []) = p
    cases e : ks.find? fun q => q.1 == p.1 with
    | none =>
      have := List.find?_eq_none.mp e p hm
      simp at this
    | some q =>
      have h1 := List.find?_some e
      have h2 := List.mem_of_find?_eq_some e
      have h3 : q.1 = p.1 := by simpa using h1
      show q = p
      exact hone q h2 p hm h3
  have hq := hp.map f
  rw [List.map_map] at hq
  have e1 : ks.map (f ∘ fun p => Value.ref p.1) = ks := by
    conv => rhs; rw [← List.map_id ks]
    exact List.map_congr_left fun p hm => hf p hm
  rw [e1] at hq
  refine ⟨out.map f, ?_, hq⟩
  rw [List.map_map]
  conv => lhs; rw [← List.map_id out]
  refine List.map_congr_left fun v hv => ?_
  obtain ⟨p, hm, e⟩ := List.mem_map.mp (hp.mem_iff.mp hv)
  show v = Value.ref (f v).1
  rw [← e, hf p hm]

theorem one_of (I : Inv X pins σ H s) {ks : List (Addr × List Int)} (hk : ∀ p ∈ ks, SqT X.K H p.1 (p.2.map V.int)) : ∀ p ∈ ks, ∀ q ∈ ks, p.1 = q.1 → p = q := by
  intro p hp q hq e
  have h1 := tup_key I (hk p hp)
  have h2 := tup_key I (hk q hq)
  rw [e] at h1
  have h3 := Option.some.inj (h1.symm.trans h2)
  have h4 : p.2 = q.2 := by
    have := congrArg (List.map (fun z : Int ⊕ List Nat => match z with | .inl n => n | .inr _ => 0)) h3
    simpa [List.map_map, Function.comp_def] using this
  exact Prod.ext e h4
end

section
variable {X : Cx}
/-- sorted(xs), xs a list of tuples of numbers (two or more: none empty) -/
def rSortT (K : PySem.W.Frag) : List V → Hp → VK → Prop := fun vs H Q => ∃ (a : Addr) (ks : List (Addr × List Int)), vs = [V.ref a] ∧ SqL K H a (ks.map fun p => V.ref p.1) ∧ (∀ p ∈ ks, SqT K H p.1 (p.2.map V.int)) ∧ (2 ≤ ks.length → ∀ p ∈ ks, p.2 ≠ []) ∧
  ∀ (ks' : List (Addr × List Int)) (p : Addr), ks'.Perm ks → (ks'.map (·.2)).Pairwise (fun x y => llt y x = false) → H p = none → Q (.ref p) (upd H p (.lst (ks'.map fun p => V.ref p.1)))
theorem pw_of {h : Heap} {ks' : List (Addr × List Int)} (hk : ∀ p ∈ ks', G.tupKeyC h (fun _ => false) (.ref p.1) = some (p.2.map Sum.inl))
    (pw : (ks'.map fun p => Value.ref p.1).Pairwise (fun u v => (G.tupKindC h (fun _ => false)).blt (((G.tupKindC h (fun _ => false)).keyOf v).getD (G.tupKindC h (fun _ => false)).dflt) (((G.tupKindC h (fun _ => false)).keyOf u).getD (G.tupKindC h (fun _ => false)).dflt) = false)) :
    (ks'.map (·.2)).Pairwise (fun x y => llt y x = false) := by
  rw [List.pairwise_map] at pw ⊢
  refine List.Pairwise.imp_of_mem (fun {p q} hp hq hle => ?_) pw
  have h1 : (G.tupKindC h (fun _ => false)).keyOf (.ref p.1) = some (p.2.map Sum.inl) := hk p hp
  have h2 : (G.tupKindC h (fun _ => false)).keyOf (.ref q.1) = some (q.2.map Sum.inl) := hk q hq
  have hle' : lexLt itemOrd (((G.tupKindC h (fun _ => false)).keyOf (.ref q.1)).getD []) (((G.tupKindC h (fun _ => false)).keyOf (.ref p.1)).getD []) = false := hle
  rw [h1, h2] at hle'
  rw [← lex_inl]
  exact hle'
theorem cr_sortT : CallR X (.builtin "sorted") (rSortT X.K) := by
  intro pins s σ H vs us Q I r h
  obtain ⟨a, ks, rfl, hs, hk, hne, q⟩ := h
  obtain ⟨its, rv, hl, hz⟩ := I.list hs; rw [Vals.ref1 r]
  have eits := refs_of_vals rv
  have hkey : ∀ p ∈ ks, G.tupKeyC s.heap (fun _ => false) (.ref p.1) = some (p.2.map Sum.inl) := fun p hp => tup_key I (hk p hp)
  have hlen : its.length = ks.length := by rw [eits, List.length_map]
  refine G.sortedG (κ := G.tupKindC s.heap (fun _ => false)) (kd := tuples' true) hl.isList (G.tupKeys fun v hv => ?_) (fun s₂ k => G.tupC_ltAt (s := s₂) true k) (fun h2 A' E' s₂ Q' k hq => ?_) (by rw [← rv.length]; exact hz) fun st' hp hs' hst => ?_
  · rw [eits] at hv
    obtain ⟨p, hp, e⟩ := List.mem_map.mp hv
    exact ⟨_, by rw [← e]; exact hkey p hp⟩
  · have hall : ∀ v ∈ its, ∃ f, TupOf s.heap (fun _ => false) v f := fun v hv => by
      rw [eits] at hv
      obtain ⟨p, hp, e⟩ := List.mem_map.mp hv
      obtain ⟨ts, t1, t2⟩ := tup_raw I (hk p hp)
      rw [← e]
      exact tupOf_of t1 t2 (hne (by rw [← hlen]; exact h2) p hp)
    obtain ⟨fs, hfs⟩ := tupsOf_of its hall
    exact tup_kind (s := s₂) (by rw [G.TupsOf.length hfs]; omega) (G.TupsOf.keep k hfs) hq
  · obtain ⟨pm, pw⟩ := sortK_out hp hs'
    rw [eits] at pm
    obtain ⟨ks', eo, pk⟩ := order_refs ks (one_of I hk) _ pm
    rw [eo] at pw
    obtain ⟨ep, he'⟩ := PyProof.Rows.sortedAll_at s.heap its ((arrOf st').map (·.2))
    have hv : Vals (ks'.map fun p => V.ref p.1) ((arrOf st').map (·.2)).toList := by rw [eo]; exact vals_of_refs ks'
    have hlen2 : (ks'.map fun p => V.ref p.1).length ≤ sizeLine := by
      have z := hz
      rw [List.length_map] at z ⊢
      rw [pk.length_eq]
      exact z
    refine ⟨.ref _, upd H (s.heap.objs.size + 1) (.lst (ks'.map fun p => V.ref p.1)), I.laid (t' := s.toks) (fun _ _ => PyProof.Rows.sortedAll_old) (Nat.le_succ _) ⟨hlen2, ((arrOf st').map (·.2)).toList, ep, hv, he'⟩, rfl, q _ _ pk ?_ (I.hok.fresh (Nat.le_succ _))⟩
    exact pw_of (fun p hp => hkey p (pk.mem_iff.mp hp)) pw
end
end K8

namespace K8
open PySem PySem.Spec PyProof.Rows L2

/-! ### sorted of a tuple of numbers -/
section
variable {prog : Program} {w : World} {A : Around} {E : Value → Shared → Prop} {s : Shared}
theorem collectT {l : Addr} {us : List Value} {Q : List Value → Shared → Prop} (hT : s.heap.IsTuple l us.toArray) (hz : us.length ≤ sizeLine)
    (q : Q us { s with heap := (s.heap.push (seqObj "list" #[] 0)).update s.heap.objs.size (Obj.mapSeq (· ++ us.toArray)) }) : wpAny (model prog w) A (collect (.ref l)) Q E s := by
  obtain ⟨o, g, c, n, d⟩ := hT
  have g1 : (s.heap.push (seqObj "list" #[] 0)).get? l = some o := Heap.get?_push_of_some _ g
  have g0 : (s.heap.push (seqObj "list" #[] 0)).get? s.heap.objs.size = some (seqObj "list" #[] 0) := Heap.get?_push_size _ rfl
  unfold collect
  refine wpAny_bind (wpAny_runValue (codeAny_builtin entry_proto_collect' ?_)); show wpAny _ _ (do again (.builtin "list.__iadd__" ⟨[← newList [], .ref l], []⟩)) _ _ s
  refine wpAny_bind (wpAny_newList (wpAny_pure ⟨Code.quiet_builtin _ (by decide +kernel), codeAny_builtin entry_list_iadd' ?_⟩)); show wpAny _ _ (Builtin.List.listExtendWith (.ref s.heap.objs.size) (.ref l) (.ref s.heap.objs.size)) _ _ { s with heap := s.heap.push (seqObj "list" #[] 0) }
  unfold Builtin.List.listExtendWith
  refine wpAny_bind (wpAny_typeOf (T := "tuple") ⟨o, g1, c⟩ ?_)
  have tt : (Value.type "tuple" == Value.type "tuple") = true := by rfl
  rw [if_pos (show (Builtin.List.listSameRef (.ref s.heap.objs.size) (.ref l) || Value.type "tuple" == Value.type "list" || Value.type "tuple" == Value.type "tuple") = true by rw [tt, Bool.or_true])]
  refine wpAny_bind (listItems_at g1 d (wpAny_bind (listItems_at g0 rfl ?_)))
  rw [if_neg (show ¬ ((!(#[] : Array Value).isEmpty && Builtin.List.listTooLong ((#[] : Array Value).size + us.toArray.size)) = true) by simp)]
  refine wpAny_bind (listUpdate_at g0 rfl ?_ (Nat.zero_le _) (by show (#[] ++ us.toArray).size ≤ sizeLine + 1; simp only [Array.size_append, List.size_toArray, List.length_nil]; omega))
  refine wpAny_pure ?_
  refine wpAny_bind (wpAny_load (get?_update_seq g0 _) ?_)
  show wpAny _ _ (pure ((#[] : Array Value) ++ us.toArray).toList) Q E _
  rw [show ((#[] : Array Value) ++ us.toArray).toList = us by simp]
  exact wpAny_pure q
theorem sortedIT {l : Addr} {us : List Value} {ns : List Int} {Q : Value → Shared → Prop} (hT : s.heap.IsTuple l us.toArray) (hI : IntsAre us ns) (h64 : us.length < 64)
    (q : ∀ (out : Array Value) (ns' : List Int), IntsAre out.toList ns' → ns'.Perm ns → ns'.Pairwise (· ≤ ·) → Q (.ref (s.heap.objs.size + 1)) { s with heap := sortedAll s.heap us out }) :
    wpAny (model prog w) A (call (.builtin "sorted") [.ref l]) Q E s := by
  refine Calls.call_function_entry kind_sorted plain_sorted entry_sorted (args_sorted1 _) ?_
  unfold Builtin.«sorted»
  refine wpAny_bind (m := checkCount "sorted" 1 1 _) (wpAny_pure (wpAny_bind (collectT hT (by rw [sizeLine_eq]; omega) (wpAny_bind (wpAny_newList ?_)))))
  generalize hm : (s.heap.push (seqObj "list" #[] 0)).update s.heap.objs.size (Obj.mapSeq (· ++ us.toArray)) = h1
  have sz : h1.objs.size = s.heap.objs.size + 1 := by rw [← hm, Heap.size_update, size_push']
  have gL : (h1.push (seqObj "list" us.toArray 0)).get? (s.heap.objs.size + 1) = some (seqObj "list" us.toArray 0) := by rw [← sz]; exact Heap.get?_push_size _ rfl
  show wpAny _ _ _ _ _ { s with heap := h1.push (seqObj "list" us.toArray 0) }
  rw [sz]
  refine wpAny_bind (wpAny_holding (wpAny_call_entry slot_list_sort ⟨_, gL, rfl⟩ entry_list_sort (list_sort_tree gL hI h64 fun out ns' a1 a2 a3 => ⟨_, rfl, ?_⟩) (args_list_sort _)))
  have e := q out ns' a1 a2 a3
  unfold sortedAll at e
  rw [hm] at e
  exact wpAny_pure ⟨_, rfl, e⟩
end
section
variable {X : Cx}
/-- sorted(t), t a tuple of fewer than 64 numbers -/
def rSortIT (K : PySem.W.Frag) : List V → Hp → VK → Prop := fun vs H Q => ∃ (a : Addr) (ns : List Int), vs = [V.ref a] ∧ SqT K H a (ns.map V.int) ∧ ns.length < 64 ∧
  ∀ (ns' : List Int) (p : Addr), ns'.Perm ns → ns'.Pairwise (· ≤ ·) → H p = none → Q (.ref p) (upd H p (.lst (ns'.map V.int)))
theorem cr_sortIT : CallR X (.builtin "sorted") (rSortIT X.K) := by
  intro pins s σ H vs us Q I r h
  obtain ⟨a, ns, rfl, hs, h64, q⟩ := h
  obtain ⟨its, hT, hi⟩ := tup_raw I hs
  rw [Vals.ref1 r]
  refine sortedIT hT hi (by rw [hi.length]; exact h64) fun out ns' h1 h2 h3 => ?_
  obtain ⟨ep, he⟩ := PyProof.Rows.sortedAll_at s.heap its out
  have z : (ns'.map V.int).length ≤ sizeLine := by rw [List.length_map, h2.length_eq, sizeLine_eq]; omega
  exact ⟨.ref _, upd H (s.heap.objs.size + 1) (.lst (ns'.map V.int)), I.laid (t' := s.toks) (fun _ _ => PyProof.Rows.sortedAll_old) (Nat.le_succ _) ⟨z, out.toList, ep, vals_of_ints h1, he⟩, rfl, q ns' _ h2 h3 (I.hok.fresh (Nat.le_succ _))⟩

/-- set(t), t a tuple of numbers -/
def rSetIT (K : PySem.W.Frag) (w : World) : List V → Hp → VK → Prop := fun vs H Q => ∃ (a : Addr) (ns : List Int), vs = [V.ref a] ∧ SqT K H a (ns.map V.int) ∧ ns.length < 64 ∧
  ∀ (p : Addr) (c : Nat), c ≤ ns.length → H p = none → Q (.ref p) (upd H p (SetO w p (fun j => decide (j ∈ ns)) c))
theorem cr_setIT (hc : X.calm = true) : CallR X (.type "set") (rSetIT X.K X.w) := by
  intro pins s σ H vs us Q I r h
  obtain ⟨a, ns, rfl, hs, h64, q⟩ := h
  obtain ⟨its, hT, hi⟩ := tup_raw I hs
  rw [Vals.ref1 r]
  have hn : H s.heap.objs.size = none := I.hok.fresh (Nat.le_refl _)
  refine call_set_tupI (P := X.prog) (w := X.w) ns (I.ok.hd hc) (show s.heap.IsTuple a its.toArray from hT) hi (by unfold scanBound; omega) fun h' tk c R hcn k => ?_
  exact ⟨.ref s.heap.objs.size, upd H s.heap.objs.size (SetO X.w s.heap.objs.size (fun j => decide (j ∈ ns)) c), I.laid (t' := tk) k (Nat.le_refl _) (setO_new R), rfl, q _ c hcn hn⟩
end
end K8

namespace K8
open PySem PySem.Spec PyProof.Rows L2

section
variable {P : Program} {w : World} {A : Around} {E : Value → Shared → Prop} {s : Shared}
/-- an empty set, as it is made -/
abbrev set0 (w : World) : Obj := { cls := .type "set", dict := none, data := .set #[] 0 (.fresh 0 0 (!w.params.followText "set-order")) }
/-- set(t), t a tuple of tuples of numbers -/
theorem setTT {l : Addr} {xs : Array Value} (ks : List (Addr × List Int)) {Q : Value → Shared → Prop} (hh : A.handled = none) (hl : s.heap.IsTuple l xs) (ex : xs.toList = ks.map fun p => Value.ref p.1)
    (hk : ∀ p ∈ ks, IsT P w s.heap p.2 p.1) (h64 : ks.length < 64) (hu : A.units + 3 < cLine)
    (q : ∀ (h' : Heap) (tk : Nat) L es ep t, SetTR P w h' s.heap.objs.size L es ep t → Got ks ks.length L → (∀ b o, s.heap.get? b = some o → h'.get? b = some o) → Q (.ref s.heap.objs.size) { s with heap := h', toks := tk }) :
    wpAny (model P w) A (call (.type "set") [.ref l]) Q E s := by
  have nx : xs.size = ks.length := by rw [← Array.length_toList, ex, List.length_map]
  have lts : l < s.heap.objs.size := by obtain ⟨o, g, _⟩ := hl; exact Heap.lt_size g
  have ⟨c, tl, hmro⟩ := F.called_set.mro
  have ⟨hmade, hsub⟩ := And.intro F.called_set.made F.called_set.sub
  refine wpAny_call (codeAny_of_tree (show wpAny _ _ (callAny (.type "set") _) _ _ _ from wpAny_pure ⟨Code.quiet_builtin _ (by decide +kernel), codeAny_builtin F.entry_type_call ?_⟩))
  rw [Around.under_plain (weight_type_call_type "set" [.ref l] []) rfl]
  have ⟨h1, h2, hct⟩ := And.intro F.called_set.notType (And.intro F.called_set.canCreate (F.typeCall_set_1 (.ref l)))
  repeat (any_goals (first | assumption | wp_step))
  refine codeAny_mono (code_set_led1 (.ref l) (E := E) (Q₁ := fun v z => v = .ref s.heap.objs.size ∧ z = { s with heap := s.heap.push (set0 w) }) ⟨rfl, rfl⟩) fun r z hr => ?_
  rcases r with e | fl
  · exact hr
  cases fl with
  | ret v =>
    obtain ⟨rfl, rfl⟩ := hr
    have gS : (s.heap.push (set0 w)).get? s.heap.objs.size = some (set0 w) := Heap.get?_push_size _ rfl
    have tS : Shared.TypeIs { s with heap := s.heap.push (set0 w) } (.ref s.heap.objs.size) "set" := ⟨_, gS, rfl⟩
    have ⟨hli, hbi⟩ := And.intro F.called_set.init.lookup (F.called_set.init.bind (.ref s.heap.objs.size))
    repeat (any_goals (first | assumption | wp_step))
    refine codeAny_mono (codeAny_call_builtin (R := wants (fun r z => r = .none ∧ ∃ h' tk L es ep t, z = { s with heap := h', toks := tk } ∧ SetTR P w h' s.heap.objs.size L es ep t ∧ Got ks ks.length L ∧ (∀ b o, s.heap.get? b = some o → h'.get? b = some o)) E) F.called_set.init.plain F.entry_set_init (check_set_init_1 tS ?_)) fun r z hr => ?_
    · obtain ⟨⟨cls, dct, dat, slt⟩, g, ec, n, ed⟩ := hl
      simp only at ec ed
      subst ec ed
      have hol' : (s.heap.push (set0 w)).get? l = some { cls := .type "tuple", dict := dct, data := .seq xs n, slots := slt } := Heap.get?_push_of_some _ g
      have ⟨f1, f2⟩ := And.intro F.sub_tuple_set F.sub_tuple_frozenset
      have f3 : (Value.type "tuple" == Value.type "dict") = false := by decide
      have hl1 : (s.heap.push (set0 w)).IsTuple l xs := ⟨_, hol', rfl, n, rfl⟩
      unfold Builtin.«set.__init__» noKeywords Builtin.Frozenset.updateFrom
      generalize hPI : pyIter = PI
      wp_walk
      subst hPI
      refine wpAny_pyIter_tuple hl1 (wpAny_bind (wpAny_runValue ?_))
      have h3 : A.in1.in1.in1.handled = none := by simp [hh]
      have sz : (s.heap.push (set0 w)).objs.size = s.heap.objs.size + 1 := Heap.size_push ..
      have nI : l ≠ (s.heap.push (set0 w)).objs.size := by rw [sz]; exact Nat.ne_of_lt (Nat.lt_succ_of_lt lts)
      have nS : s.heap.objs.size ∉ [(s.heap.push (set0 w)).objs.size, l] := by
        rw [sz, List.mem_cons, List.mem_singleton, not_or]
        exact ⟨Nat.ne_of_lt (Nat.lt_succ_self _), Nat.ne_of_gt lts⟩
      have at_ : ∀ (i : Nat) (v : Value), xs[i]? = some v → ∃ p, ks[i]? = some p ∧ v = .ref p.1 := fun i v hv => by
        have e : xs.toList[i]? = some v := by rw [Array.getElem?_toList]; exact hv
        rw [ex, List.getElem?_map] at e
        obtain ⟨p, hp, e2⟩ := Option.map_eq_some_iff.mp e
        exact ⟨p, hp, e2.symm⟩
      have new : ∀ b, s.heap.objs.size ≤ b → s.heap.get? b = none := fun b hb => by
        rcases e : s.heap.get? b with _ | o
        · rfl
        · exact absurd (Nat.lt_of_lt_of_le (Heap.lt_size e) hb) (Nat.lt_irrefl _)
      refine set_update_tups ((Walks.tuple h3 _ l nI xs).toS) s.heap.objs.size nS ks nx h64 at_ s.heap hk (new _ (Nat.le_refl _)) (fun b hb => new b ?_) hu (xs.size - 0) 0 _ (by omega) (Nat.zero_le _)
        ⟨⟨_, Heap.get?_push_size _ rfl, rfl, rfl⟩, hl1.push _⟩ (fun b o e => Heap.get?_push_of_some _ (Heap.get?_push_of_some _ e)) ⟨[], #[], 0, _, setTR_fresh (Heap.get?_push_of_some _ gS), Got.zero ks⟩ fun z L es ep t hm hS g' hkp => ?_
      · rw [List.mem_singleton.mp hb, sz]
        exact Nat.le_succ _
      · obtain ⟨h', g2, d', tk', os'⟩ := z
        obtain ⟨eg, ed, eo⟩ : g2 = s.gens ∧ d' = s.drawn ∧ os' = s.os := ⟨hm.gens, hm.drawn, hm.os⟩
        subst eg ed eo
        rw [nx] at g'
        exact wpAny_pure (wpAny_pure ⟨rfl, h', tk', L, es, ep, t, rfl, hS, g', hkp⟩)
    · rcases r with e | fl
      · exact hr
      cases fl with
      | ret r =>
        obtain ⟨rfl, h', tk, L, es, ep, t, rfl, hS, g', hk'⟩ := hr
        repeat (any_goals (first | assumption | wp_step))
        exact q _ _ _ _ _ _ hS g' hk'
      | _ => exact hr.elim
  | _ => exact hr.elim
end
end K8

namespace K8
open PySem PySem.Spec PyProof.Rows L2

section
variable {X : Cx}
/-- set(t), t a tuple of tuples of numbers -/
def rSetTT (K : PySem.W.Frag) (P : Program) (w : World) : List V → Hp → VK → Prop := fun vs H Q => ∃ (a : Addr) (ks : List (Addr × List Int)), vs = [V.ref a] ∧ SqT K H a (ks.map fun p => V.ref p.1) ∧ (∀ p ∈ ks, SqT K H p.1 (p.2.map V.int)) ∧ ks.length < 64 ∧
  ∀ p L, H p = none → (L.map (·.2)).Nodup → (∀ q ∈ L, q ∈ ks) → (∀ q ∈ ks, q.2 ∈ L.map (·.2)) → Q (.ref p) (upd H p (SetTO P w p L))
theorem cr_setTT (hc : X.calm = true) (hu : X.A.units + 64 < cLine) : CallR X (.type "set") (rSetTT X.K X.prog X.w) := by
  intro pins s σ H vs us Q I r h
  obtain ⟨a, ks, rfl, hs, hk, h64, q⟩ := h
  obtain ⟨its, rv, hT, _⟩ := I.tuple hs
  rw [Vals.ref1 r]
  refine setTT (P := X.prog) (w := X.w) ks (I.ok.hd hc) (show s.heap.IsTuple a its.toArray from hT) (by simpa using refs_of_vals rv) (fun p hp => I.isT (hk p hp)) h64 (by omega) fun h' tk L es ep t R g k => ?_
  exact ⟨.ref s.heap.objs.size, upd H s.heap.objs.size (SetTO X.prog X.w s.heap.objs.size L), I.laid (t' := tk) k (Nat.le_refl _) (setTO_new R.t0), rfl, q _ L (I.hok.fresh (Nat.le_refl _)) R.nd (fun p hp => List.mem_of_mem_take (g.sub p hp)) fun p hp => g.all p (by rw [List.take_length]; exact hp)⟩

theorem intsK {k : List Int} {vs : List Value} {P : Program} {w : World} (h : ItemsAre (intKind P w) k vs) : IntsAre vs k := ints_of_items h
theorem keyIsT {P : Program} {w : World} {h : Heap} {k : List Int} {b : Addr} (x : IsT P w h k b) : G.tupKeyC h (fun _ => false) (.ref b) = some (k.map Sum.inl) := by
  obtain ⟨o, xs, n, g, c, d, hi⟩ := x
  exact tupKeyC_of (its := xs.toList) ⟨o, g, c, n, by rw [d]⟩ (intsK hi)
theorem tupOfIsT {P : Program} {w : World} {h : Heap} {k : List Int} {b : Addr} (x : IsT P w h k b) (hne : k ≠ []) : ∃ f, TupOf h (fun _ => false) (.ref b) f := by
  obtain ⟨o, xs, n, g, c, d, hi⟩ := x
  exact tupOf_of (its := xs.toList) ⟨o, g, c, n, by rw [d]⟩ (intsK hi) hne

/-- sorted(s), s a set of tuples of numbers (two or more: none empty) -/
def rSortS (K : PySem.W.Frag) (P : Program) (w : World) : List V → Hp → VK → Prop := fun vs H Q => ∃ (a : Addr) (L : List (Addr × List Int)), vs = [V.ref a] ∧ H a = some (SetTO P w a L) ∧ (∀ p ∈ L, SqT K H p.1 (p.2.map V.int)) ∧ (2 ≤ L.length → ∀ p ∈ L, p.2 ≠ []) ∧
  ∀ (L' : List (Addr × List Int)) (p : Addr), L'.Perm L → (L'.map (·.2)).Nodup → (L'.map (·.2)).Pairwise (fun x y => llt y x = false) → H p = none → Q (.ref p) (upd H p (.lst (L'.map fun q => V.ref q.1)))
theorem cr_sortS (hc : X.calm = true) : CallR X (.builtin "sorted") (rSortS X.K X.prog X.w) := by
  intro pins s σ H vs us Q I r h
  obtain ⟨a, L, rfl, ha, hk, hne, q⟩ := h
  obtain ⟨es, ep, t, R⟩ := SetT0.full (I.hok a _ ha).1 fun p hp => I.isT (hk p hp)
  rw [Vals.ref1 r]
  obtain ⟨o, ho, hex, hd⟩ := R.ob
  have few := R.few
  have nes : es.size < scanBound := by rw [R.size]; unfold scanBound; omega
  have er : es.toList.map (·.2) = L.map fun q => Value.ref q.1 := by rw [R.rows, rowsOf, List.map_map]; rfl
  refine Calls.call_function_entry kind_sorted plain_sorted entry_sorted (args_sorted1 _) ?_
  unfold Builtin.«sorted»
  refine wpAny_bind (m := checkCount "sorted" 1 1 _) (wpAny_pure (wpAny_bind (collect_set (A := X.A.in1) (I.ok.hd hc) ⟨o, ho, hex.1, hd⟩ R.fits nes R.tab.ris R.led fun s1 vs k1 hz g1 o1 pm => ?_)))
  rw [er] at pm
  obtain ⟨L1, e1, p1⟩ := order_refs L (one_of I hk) vs pm
  have hvl : vs.length < 64 := by rw [pm.length_eq, List.length_map]; exact few
  have zl : vs.length ≤ sizeLine := by rw [sizeLine_eq]; omega
  refine wpAny_bind (wpAny_newList ?_ zl)
  generalize hs2 : s1.heap.push (seqObj "list" vs.toArray 0) = h2
  have gL : h2.get? s1.heap.objs.size = some (seqObj "list" vs.toArray 0) := by rw [← hs2]; exact Heap.get?_push_size _ rfl
  have k2 : ∀ b u, s.heap.get? b = some u → h2.get? b = some u := fun b u e => by rw [← hs2]; exact Heap.get?_push_of_some _ (k1 b u e)
  have tk : ∀ p ∈ L, IsT X.prog X.w h2 p.2 p.1 := fun p hp => isT_keep (R.tup p hp) k2
  have inL : ∀ v ∈ vs, ∃ p ∈ L, v = Value.ref p.1 := fun v hv => by
    rw [e1] at hv
    obtain ⟨p, hp, e⟩ := List.mem_map.mp hv
    exact ⟨p, p1.mem_iff.mp hp, e.symm⟩
  have k6 := G.keeps_sort6 (vs := vs) gL
  have srt := G.list_sort_treeG (prog := X.prog) (w := X.w) (A := X.A.in1.in1) (s := { s1 with heap := h2 }) (κ := G.tupKindC h2 (fun _ => false)) (kd := tuples' true) (vs := vs) (n := 0) (a := s1.heap.objs.size)
    (P := fun f z => ∃ z2 : Shared, f = .done (.ret .none) ∧ z = z2 ∧ ∃ out : List Value, z2 = { s1 with heap := sortedHeap h2 s1.heap.objs.size vs out.toArray } ∧ out.Perm vs ∧ out.Pairwise (fun u v => (G.tupKindC h2 (fun _ => false)).blt (((G.tupKindC h2 (fun _ => false)).keyOf v).getD (G.tupKindC h2 (fun _ => false)).dflt) (((G.tupKindC h2 (fun _ => false)).keyOf u).getD (G.tupKindC h2 (fun _ => false)).dflt) = false))
    (E := X.xe) gL (G.tupKeys fun v hv => by
      obtain ⟨p, hp, e⟩ := inL v hv
      exact ⟨_, by rw [e]; exact keyIsT (tk p hp)⟩) (G.tupC_ltAt (s := { s1 with heap := G.sortHeap6 h2 s1.heap.objs.size vs }) true k6)
    (fun hv2 Q' hq => by
      obtain ⟨fs, hfs⟩ := tupsOf_of (h := h2) vs fun v hv => by
        obtain ⟨p, hp, e⟩ := inL v hv
        rw [e]
        exact tupOfIsT (tk p hp) (hne (by rw [pm.length_eq, List.length_map] at hv2; exact hv2) p hp)
      exact tup_kind (s := { s1 with heap := G.sortHeap6 h2 s1.heap.objs.size vs }) (by rw [G.TupsOf.length hfs]; omega) (G.TupsOf.keep k6 hfs) hq) zl
    fun st' a1 a2 _ => by
      obtain ⟨b1, b2⟩ := sortK_out a1 a2
      exact ⟨_, rfl, rfl, ((arrOf st').map (·.2)).toList, by rw [Array.toArray_toList], b1, b2⟩
  refine wpAny_bind (wpAny_holding (wpAny_call_entry slot_list_sort ⟨_, gL, rfl⟩ entry_list_sort (wpAny_mono srt (fun f z hz => ?_) fun _ _ e => e) (args_list_sort _)))
  obtain ⟨z2, rfl, rfl, out, rfl, b1, b2⟩ := hz
  refine ⟨_, rfl, ?_⟩
  obtain ⟨c, gc⟩ := sortedHeap_at (vs := vs) (out := out.toArray) gL
  obtain ⟨L', e', p'⟩ := order_refs L (one_of I hk) out (b1.trans pm)
  rw [e'] at b2
  have pw := pw_of (fun p hp => keyIsT (tk p (p'.mem_iff.mp hp))) b2
  have lt1 : ∀ b u, s.heap.get? b = some u → b < s1.heap.objs.size := fun b u e => Heap.lt_size (k1 b u e)
  have kk : ∀ b u, s.heap.get? b = some u → (sortedHeap h2 s1.heap.objs.size vs out.toArray).get? b = some u := fun b u e => by
    rw [sortedHeap_old (Nat.ne_of_lt (lt1 b u e)) (Nat.lt_of_lt_of_le (lt1 b u e) (Nat.le_of_lt (Heap.lt_size gL)))]
    exact k2 b u e
  have hlen : (L'.map fun q => V.ref q.1).length ≤ sizeLine := by rw [List.length_map, p'.length_eq, sizeLine_eq]; omega
  have hn : H s1.heap.objs.size = none := I.hok.fresh hz
  have J : Inv X pins σ (upd H s1.heap.objs.size (.lst (L'.map fun q => V.ref q.1))) { s with heap := sortedHeap h2 s1.heap.objs.size vs out.toArray, gens := s1.gens, drawn := s1.drawn, toks := s1.toks } :=
    I.call (ch := []) (Un.laid kk hz hn) (I.hok.laid kk hz ⟨hlen, out, c, by rw [e']; exact vals_of_refs L', gc⟩) (by show AllBare s1.gens; rw [g1]; exact I.bare) (fun _ z => nomatch z)
  have eo : ({ s1 with heap := sortedHeap h2 s1.heap.objs.size vs out.toArray } : Shared) = { s with heap := sortedHeap h2 s1.heap.objs.size vs out.toArray, gens := s1.gens, drawn := s1.drawn, toks := s1.toks } := by
    cases s1; cases s; cases o1; rfl
  rw [eo]
  exact wpAny_pure ⟨_, rfl, .ref _, _, J, rfl, q L' _ p' ((p'.map (·.2)).nodup_iff.mpr R.nd) pw hn⟩
end
end K8

namespace K8
open PySem PySem.Spec PyProof.Rows L2
open PySem.W (Datum DatumOrd Tup minOf listLt)

/-! ### data: tuples of numbers, tuples of these, systems -/
def dT (ns : List Int) : PyData := .tuple (ns.map .int)
def dTT (pss : List (List Int)) : PyData := .tuple (pss.map dT)
def dS (s : Sy) : PyData := .tuple [.int s.1, dTT s.2]
def dL (ns : List Int) : PyData := .list (ns.map .int)
def dLT (pss : List (List Int)) : PyData := .list (pss.map dT)
def dLS (ss : List Sy) : PyData := .list (ss.map dS)

theorem lay_ints : ∀ ns : List Int, PyData.canLayAll0 (ns.map PyData.int) = true
  | [] => by simp [PyData.canLayAll0]
  | n :: ns => by simp [PyData.canLayAll0, PyData.canLay0, lay_ints ns]
theorem dep_ints : ∀ ns : List Int, PyData.depthAll (ns.map PyData.int) ≤ 0
  | [] => by simp [PyData.depthAll]
  | n :: ns => by
    have := dep_ints ns
    simp only [List.map_cons, PyData.depthAll, PyData.depth]
    omega
theorem lay_T (ns : List Int) : (dT ns).canLay0 = true := by simp [dT, PyData.canLay0, lay_ints ns]
theorem dep_T (ns : List Int) : (dT ns).depth ≤ 1 := by
  have := dep_ints ns
  simp only [dT, PyData.depth]
  omega
theorem lay_Ts : ∀ pss : List (List Int), PyData.canLayAll0 (pss.map dT) = true
  | [] => by simp [PyData.canLayAll0]
  | n :: ns => by simp [PyData.canLayAll0, lay_T, lay_Ts ns]
theorem dep_Ts : ∀ pss : List (List Int), PyData.depthAll (pss.map dT) ≤ 1
  | [] => by simp [PyData.depthAll]
  | n :: ns => by
    have h1 := dep_Ts ns
    have h2 := dep_T n
    simp only [List.map_cons, PyData.depthAll]
    omega
theorem lay_TT (pss : List (List Int)) : (dTT pss).canLay0 = true := by simp [dTT, PyData.canLay0, lay_Ts pss]
theorem dep_TT (pss : List (List Int)) : (dTT pss).depth ≤ 2 := by
  have := dep_Ts pss
  simp only [dTT, PyData.depth]
  omega
theorem lay_S (s : Sy) : (dS s).canLay0 = true := by simp [dS, PyData.canLay0, PyData.canLayAll0, lay_TT]
theorem dep_S (s : Sy) : (dS s).depth ≤ 3 := by
  have := dep_TT s.2
  simp only [dS, PyData.depth, PyData.depthAll]
  omega
theorem shp {d : PyData} (h1 : d.canLay0 = true) (h2 : d.depth ≤ 64) : SeqAt.shaped d = true := by
  show (d.canLay0 && decide (d.depth ≤ 64)) = true
  rw [h1, decide_eq_true h2]
  rfl
theorem shp_T (ns : List Int) : SeqAt.shaped (dT ns) = true := shp (lay_T ns) (Nat.le_trans (dep_T ns) (by decide))
theorem shp_S (s : Sy) : SeqAt.shaped (dS s) = true := shp (lay_S s) (Nat.le_trans (dep_S s) (by decide))
theorem shp_L (ns : List Int) : SeqAt.shaped (dL ns) = true := shp (by simp [dL, PyData.canLay0, lay_ints ns]) (by have := dep_ints ns; simp only [dL, PyData.depth]; omega)
theorem shp_LT (pss : List (List Int)) : SeqAt.shaped (dLT pss) = true := shp (by simp [dLT, PyData.canLay0, lay_Ts pss]) (by have := dep_Ts pss; simp only [dLT, PyData.depth]; omega)

/-! ### as the library's ordered data -/
abbrev SD := Int × Tup (Tup Int)
def toSD (s : Sy) : SD := (s.1, ⟨s.2.map Tup.mk⟩)
theorem toSD_inj {s t : Sy} (h : toSD s = toSD t) : s = t := by
  obtain ⟨a, b⟩ := s
  obtain ⟨c, d⟩ := t
  have h1 : a = c := congrArg Prod.fst h
  have h2 : b.map Tup.mk = d.map Tup.mk := congrArg (fun z : SD => z.2.items) h
  have h3 := congrArg (List.map (fun z : Tup Int => z.items)) h2
  rw [List.map_map, List.map_map] at h3
  simp only [Function.comp_def, List.map_id'] at h3
  rw [h1, h3]
theorem toD_T (ns : List Int) : Datum.toD (Tup.mk ns) = dT ns := rfl
theorem toD_TT (pss : List (List Int)) : Datum.toD (Tup.mk (pss.map Tup.mk)) = dTT pss := by
  show PyData.tuple ((pss.map Tup.mk).map Datum.toD) = PyData.tuple (pss.map dT)
  rw [List.map_map]
  rfl
theorem toD_S (s : Sy) : Datum.toD (toSD s) = dS s := by
  show PyData.tuple [.int s.1, Datum.toD (Tup.mk (s.2.map Tup.mk))] = _
  rw [toD_TT]
  rfl
theorem eqv_T (a b : List Int) : PyData.eqv (dT a) (dT b) = decide (a = b) := by
  rw [← toD_T, ← toD_T, Datum.eqv]
  exact decide_eq_decide.mpr ⟨fun e => congrArg Tup.items e, fun e => by rw [e]⟩
theorem eqv_S (a b : Sy) : PyData.eqv (dS a) (dS b) = decide (a = b) := by
  rw [← toD_S, ← toD_S, Datum.eqv]
  exact decide_eq_decide.mpr ⟨toSD_inj, fun e => by rw [e]⟩
theorem eqv_L (a b : List Int) : PyData.eqv (dL a) (dL b) = decide (a = b) := Datum.eqv (α := List Int) a b
theorem eqv_LT (a b : List (List Int)) : PyData.eqv (dLT a) (dLT b) = decide (a = b) := by
  have e : ∀ z : List (List Int), dLT z = Datum.toD (z.map Tup.mk) := fun z => by
    show PyData.list (z.map dT) = PyData.list ((z.map Tup.mk).map Datum.toD)
    rw [List.map_map]
    rfl
  rw [e, e, Datum.eqv]
  refine decide_eq_decide.mpr ⟨fun h => ?_, fun h => by rw [h]⟩
  have h3 := congrArg (List.map (fun z : Tup Int => z.items)) h
  rw [List.map_map, List.map_map] at h3
  simpa only [Function.comp_def, List.map_id'] using h3

/-! ### the order of systems -/
theorem lt_T : ∀ a b : List Int, listLt a b = llt a b
  | [], [] => rfl
  | [], _ :: _ => rfl
  | _ :: _, [] => rfl
  | x :: a, y :: b => by
    show (if x = y then listLt a b else decide (x < y)) = if x = y then llt a b else decide (x < y)
    rw [lt_T a b]
theorem lt_TT : ∀ a b : List (List Int), listLt (a.map Tup.mk) (b.map Tup.mk) = pllt a b
  | [], [] => rfl
  | [], _ :: _ => rfl
  | _ :: _, [] => rfl
  | x :: a, y :: b => by
    show (if Tup.mk x = Tup.mk y then listLt (a.map Tup.mk) (b.map Tup.mk) else listLt x y) = if x = y then pllt a b else llt x y
    rw [lt_TT a b, lt_T]
    by_cases h : x = y
    · rw [if_pos h, if_pos (by rw [h])]
    · rw [if_neg h, if_neg fun e => h (congrArg Tup.items e)]
theorem lt_S (s t : Sy) : DatumOrd.lt (toSD s) (toSD t) = slt s t := by
  show (if s.1 = t.1 then listLt (s.2.map Tup.mk) (t.2.map Tup.mk) else decide (s.1 < t.1)) = slt s t
  rw [lt_TT]
  rfl
theorem min_S : ∀ (xs : List Sy) (x : Sy), minOf (toSD x) (xs.map toSD) = toSD (minS x xs)
  | [], _ => rfl
  | y :: xs, x => by
    show minOf (if DatumOrd.lt (toSD y) (toSD x) = true then toSD y else toSD x) (xs.map toSD) = toSD (minS (if slt y x = true then y else x) xs)
    rw [lt_S]
    by_cases h : slt y x = true
    · rw [if_pos h, if_pos h, min_S xs y]
    · rw [if_neg h, if_neg h, min_S xs x]

/-! ### min of a list of systems -/
section
variable {X : Cx}
def rMinS (K : PySem.W.Frag) : List V → Hp → VK → Prop := fun vs H Q => ∃ (a : Addr) (ks : List (Addr × Sy)) (z : Sy) (zs : List Sy), vs = [V.ref a] ∧ SqL K H a (ks.map fun p => V.ref p.1) ∧ (∀ p ∈ ks, Dp K H (.ref p.1) (dS p.2)) ∧ ks.map (·.2) = z :: zs ∧
  ∀ p ∈ ks, p.2 = minS z zs → Q (.ref p.1) H
theorem holds_all {h : Heap} : ∀ (ks : List (Addr × Sy)), (∀ p ∈ ks, ∃ as, Reads h (.ref p.1) (dS p.2) as) → PySem.W.HoldAll h (ks.map fun p => Value.ref p.1) (ks.map fun p => toSD p.2)
  | [], _ => PySem.W.HoldAll.nil
  | p :: ks, hk => by
    obtain ⟨as, r⟩ := hk p List.mem_cons_self
    exact PySem.W.HoldAll.cons ⟨as, by rw [toD_S]; exact r⟩ (holds_all ks fun q hq => hk q (List.mem_cons_of_mem _ hq))
theorem refs_vals {α : Type} : ∀ {ks : List (Addr × α)} {us : List Value}, Vals (ks.map fun p => V.ref p.1) us → us = ks.map fun p => Value.ref p.1
  | [], _, .nil => rfl
  | p :: ks, _, .cons r t => by
    cases r
    rw [refs_vals t]
    rfl
theorem cr_minS (hc : X.calm = true) (hu : X.A.units + 64 < cLine) : CallR X (.builtin "min") (rMinS X.K) := by
  intro pins s σ H vs us Q I r h
  obtain ⟨a, ks, z, zs, rfl, hs, hk, ez, q⟩ := h
  obtain ⟨its, rv, hl, _⟩ := I.list hs
  rw [Vals.ref1 r]
  have ei := refs_vals rv
  have rd : ∀ p ∈ ks, ∃ as, Reads s.heap (.ref p.1) (dS p.2) as := fun p hp => Dp.reads I _ _ _ (hk p hp) rfl
  have HA := holds_all ks rd
  have e2 : (ks.map fun p => toSD p.2) = toSD z :: zs.map toSD := by
    have := congrArg (List.map toSD) ez
    rw [List.map_map] at this
    exact this
  rw [e2] at HA
  refine PySem.W.min_list_datum (α := SD) (x := toSD z) (xs := zs.map toSD) (vs := its.toArray) (I.ok.hd hc) hl.isList (by rw [ei]; simpa using HA) (by show X.A.units + 1 + 3 < cLine; omega) fun i v h' tk hi hm hkp => ?_
  rw [min_S] at hm
  have hv : v ∈ its := by
    have : its[i]? = some v := by simpa using hi
    exact List.mem_of_getElem? this
  rw [ei] at hv
  obtain ⟨p, hp, e⟩ := List.mem_map.mp hv
  subst e
  obtain ⟨as, r1⟩ := rd p hp
  obtain ⟨bs, r2⟩ := hm
  rw [toD_S] at r2
  have pl : ∀ t : Sy, (dS t).plain = true := fun t => by rw [← toD_S]; exact Datum.plain _
  have e3 : dS p.2 = dS (minS z zs) := (SeqAt.readOf_plain (pl _) (Reads.keeps hkp r1)).symm.trans (SeqAt.readOf_plain (pl _) r2)
  have e4 : p.2 = minS z zs := by
    have e5 := eqv_S p.2 (minS z zs)
    rw [e3, eqv_S] at e5
    simpa using e5
  exact ⟨.ref p.1, H, I.kept (t' := tk) hkp, rfl, q p hp e4⟩
end
end K8

namespace K8
open PySem L2
/-! ### the text by places -/
def top (i : Nat) : Stmt := PySem.Challenge.pw_faultworks_k08_whole_kinds_of_systems.main.body.getD i (.Pass ⟨0, 0, 0, 0⟩)
abbrev sIn : Stmt := top 6
abbrev sSets : Stmt := top 9
abbrev sMask : Stmt := top 10
abbrev sIsSys : Stmt := top 11
abbrev sNeedSys : Stmt := top 12
abbrev sNeedOrd : Stmt := top 15
abbrev sTurned : Stmt := top 16
abbrev sRenamed : Stmt := top 17
abbrev sOrders : Stmt := top 18
abbrev sNeedSmall : Stmt := top 19
abbrev sLeastName : Stmt := top 20
abbrev sSameKind : Stmt := top 21
abbrev sTaken : Stmt := top 23
abbrev sPick : Stmt := top 24
abbrev sSome : Stmt := top 25
abbrev sLeastL : Stmt := top 26
abbrev sSystem : Stmt := top 27
abbrev sOrder : Stmt := top 28
abbrev sLRen : Stmt := top 29
abbrev sAlike : Stmt := top 30
abbrev sLOrds : Stmt := top 31
abbrev sLaw : Stmt := top 32
theorem scIn : FnScope ["value", "least", "most"] ["value", "least", "most"] (defScope sIn) := ⟨rfl, rfl, rfl, by decide +kernel, rfl, by decide +kernel, by decide +kernel⟩
theorem scSets : FnScope ["value", "many", "one", "masks", "k", "a", "b"] ["value", "many"] (defScope sSets) := ⟨rfl, rfl, rfl, by decide +kernel, rfl, by decide +kernel, by decide +kernel⟩
theorem scMask : FnScope ["parts", "k"] ["parts"] (defScope sMask) := ⟨rfl, rfl, rfl, by decide +kernel, rfl, by decide +kernel, by decide +kernel⟩
theorem scIsSys : FnScope ["value"] ["value"] (defScope sIsSys) := ⟨rfl, rfl, rfl, by decide +kernel, rfl, by decide +kernel, by decide +kernel⟩
theorem scNeedSys : FnScope ["system"] ["system"] (defScope sNeedSys) := ⟨rfl, rfl, rfl, by decide +kernel, rfl, by decide +kernel, by decide +kernel⟩
theorem scNeedOrd : FnScope ["many", "order", "k"] ["many", "order"] (defScope sNeedOrd) := ⟨rfl, rfl, rfl, by decide +kernel, rfl, by decide +kernel, by decide +kernel⟩
theorem scTurned : FnScope ["system", "order", "path", "k"] ["system", "order"] (defScope sTurned) := ⟨rfl, rfl, rfl, by decide +kernel, rfl, by decide +kernel, by decide +kernel⟩
theorem scRenamed : FnScope ["system", "order"] ["system", "order"] (defScope sRenamed) := ⟨rfl, rfl, rfl, by decide +kernel, rfl, by decide +kernel, by decide +kernel⟩
theorem scOrders : FnScope ["many", "found", "turn", "some", "k"] ["many"] (defScope sOrders) := ⟨rfl, rfl, rfl, by decide +kernel, rfl, by decide +kernel, by decide +kernel⟩
theorem scNeedSmall : FnScope ["system"] ["system"] (defScope sNeedSmall) := ⟨rfl, rfl, rfl, by decide +kernel, rfl, by decide +kernel, by decide +kernel⟩
theorem scLeastName : FnScope ["system", "order"] ["system"] (defScope sLeastName) := ⟨rfl, rfl, rfl, by decide +kernel, rfl, by decide +kernel, by decide +kernel⟩
theorem scSameKind : FnScope ["one", "other", "system", "order"] ["one", "other"] (defScope sSameKind) := ⟨rfl, rfl, rfl, by decide +kernel, rfl, by decide +kernel, by decide +kernel⟩
theorem scTaken : FnScope ["_law_row", "_law_many", "_law_found", "_law_cell"] ["_law_row", "_law_many"] (defScope sTaken) := ⟨rfl, rfl, rfl, by decide +kernel, rfl, by decide +kernel, by decide +kernel⟩
theorem scPick : FnScope ["_law_row", "_law_things"] ["_law_row", "_law_things"] (defScope sPick) := ⟨rfl, rfl, rfl, by decide +kernel, rfl, by decide +kernel, by decide +kernel⟩
theorem scSome : FnScope ["_law_row", "_law_many", "_law_rare", "_law_k"] ["_law_row", "_law_many"] (defScope sSome) := ⟨rfl, rfl, rfl, by decide +kernel, rfl, by decide +kernel, by decide +kernel⟩
theorem scLeastL : FnScope ["_law_sets", "_law_found", "_law_one", "_law_less", "_law_other", "_law_k"] ["_law_sets"] (defScope sLeastL) := ⟨rfl, rfl, rfl, by decide +kernel, rfl, by decide +kernel, by decide +kernel⟩
theorem scSystem : FnScope ["_law_row", "_law_most", "_law_many", "_law_sets", "_law_turn", "_law_one"] ["_law_row", "_law_most"] (defScope sSystem) := ⟨rfl, rfl, rfl, by decide +kernel, rfl, by decide +kernel, by decide +kernel⟩
theorem scOrder : FnScope ["_law_row", "_law_many", "_law_found", "_law_k", "_law_at"] ["_law_row", "_law_many"] (defScope sOrder) := ⟨rfl, rfl, rfl, by decide +kernel, rfl, by decide +kernel, by decide +kernel⟩
theorem scLRen : FnScope ["_law_system_here", "_law_order_here", "_law_path", "_law_k"] ["_law_system_here", "_law_order_here"] (defScope sLRen) := ⟨rfl, rfl, rfl, by decide +kernel, rfl, by decide +kernel, by decide +kernel⟩
theorem scAlike : FnScope ["_law_found", "_law_due", "_law_k"] ["_law_found", "_law_due"] (defScope sAlike) := ⟨rfl, rfl, rfl, by decide +kernel, rfl, by decide +kernel, by decide +kernel⟩
theorem scLOrds : FnScope ["_law_many", "_law_found", "_law_turn", "_law_longer", "_law_some", "_law_k"] ["_law_many"] (defScope sLOrds) := ⟨rfl, rfl, rfl, by decide +kernel, rfl, by decide +kernel, by decide +kernel⟩
theorem scLaw : FnScope ["_law_script", "_law_row", "_law_one", "_law_order_here", "_law_other", "_law_names", "_law_found", "_law_some", "_law_turn"] ["_law_script"] (defScope sLaw) := ⟨rfl, rfl, rfl, by decide +kernel, rfl, by decide +kernel, by decide +kernel⟩
/-- no test in a comprehension -/
theorem yesT {σ : L2.St} {H : Hp} {A B : Hp → Prop} (h : A H) : tYes σ H (fun b H3 => if b = true then A H3 else B H3) := by
  show if true = true then A H else B H
  rw [if_pos rfl]
  exact h
/-! ### what stands in the heap -/
theorem same_new {H : Hp} {p : Addr} (h : H p = none) (o : HO) : Same H (upd H p o) := fun b u q => by rw [upd_ne (ne_of_none q h)]; exact q
/-- the tuples of numbers at these addresses -/
def Tups (H : Hp) (ks : List (Addr × List Int)) : Prop := ∀ p ∈ ks, H p.1 = some (.tup (p.2.map V.int))
theorem Tups.mono {H H' : Hp} {ks : List (Addr × List Int)} (h : Tups H ks) (e : Same H H') : Tups H' ks := fun p hp => e _ _ (h p hp)
abbrev refs (ks : List (Addr × List Int)) : List V := ks.map fun p => V.ref p.1
abbrev kys (ks : List (Addr × List Int)) : List (List Int) := ks.map (·.2)
theorem refs_app (ks : List (Addr × List Int)) (p : Addr × List Int) : refs (ks ++ [p]) = refs ks ++ [V.ref p.1] := by simp [refs]
theorem kys_app (ks : List (Addr × List Int)) (p : Addr × List Int) : kys (ks ++ [p]) = kys ks ++ [p.2] := by simp [kys]
theorem refs_len (ks : List (Addr × List Int)) : (refs ks).length = ks.length := by simp [refs]
theorem kys_len (ks : List (Addr × List Int)) : (kys ks).length = ks.length := by simp [kys]
/-- a system stands at t -/
def SyAt (H : Hp) (t : Addr) (s : Sy) : Prop := ∃ (u : Addr) (ks : List (Addr × List Int)), H t = some (.tup [.int s.1, .ref u]) ∧ H u = some (.tup (refs ks)) ∧ Tups H ks ∧ kys ks = s.2
theorem SyAt.mono {H H' : Hp} {t : Addr} {s : Sy} (h : SyAt H t s) (e : Same H H') : SyAt H' t s := by
  obtain ⟨u, ks, h1, h2, h3, h4⟩ := h
  exact ⟨u, ks, e _ _ h1, e _ _ h2, h3.mono e, h4⟩
/-- the built-in names are as they were -/
structure Glb (mg : Str → Option Value) : Prop where
  isi : mg "isinstance" = none
  int : mg "int" = none
  bool : mg "bool" = none
  tuple : mg "tuple" = none
  list : mg "list" = none
  sorted : mg "sorted" = none
  set : mg "set" = none
  sum : mg "sum" = none
  len : mg "len" = none
  range : mg "range" = none
  min : mg "min" = none
  str : mg "str" = none
  parts : ∃ t, mg "MOST_PARTS" = some (.int 8 t)
  names : ∃ t, mg "MOST_NAMES" = some (.int 6 t)
end K8

namespace K8
open PySem L2
section
variable {P : Program} {w : World} {K : PySem.W.Frag} {mg : Str → Option Value} {base : Heap}
/-! ### is_in -/
def spIn : Sp := fun vs H Q _ => ∃ (i lo hi : Int), vs = [.int i, .int lo, .int hi] ∧ Q (.bl (decide (lo ≤ i ∧ i ≤ hi))) H
theorem ok_in {f : Addr} {fd : FuncData} (F : Fun K "is_in" "is_in" sIn f fd) (T : Glb mg) : FnOk P w K mg base CX0 1 f fd ["value", "least", "most"] spIn := by
  refine F.ok scIn (fun vs H Q E h => ?_) (fun cdv A outer s H vs Q E hr h => ?_)
  · obtain ⟨i, lo, hi, rfl, _⟩ := h
    rfl
  · obtain ⟨i, lo, hi, rfl, q⟩ := h
    refine ⟨_, pss_one (ps_ret (pe_and
      (pe_callB call_isi (by rfl) T.isi (by decide +kernel) (pa_cons (pv 0) (pa_cons (pe_bltn (v := .ty "int") (by rfl) T.int (by decide +kernel) rfl) pa_nil)))
      (pe_and (pe_not (pe_callB call_isi (by rfl) T.isi (by decide +kernel) (pa_cons (pv 0) (pa_cons (pe_bltn (v := .ty "bool") (by rfl) T.bool (by decide +kernel) rfl) pa_nil))))
      (pe_one (pe_chain op_le op_le (pv 1) (pv 0) (pv 2)))))), ?_⟩
    refine ⟨_, rfl, _, _, _, _, true, rfl, .ty _, .base (.int i), kit_ty (by decide +kernel), _, rfl, iteT ?_⟩
    refine ⟨_, rfl, _, _, _, _, false, rfl, .ty _, .base (.int i), kit_ty (by decide +kernel), _, rfl, _, rfl, iteT ?_⟩
    refine ⟨_, rfl, _, rfl, _, _, rfl, rfl, _, rfl, ?_⟩
    refine ite2 (fun c => ?_) (fun c => ?_)
    · have c' : lo ≤ i := of_decide_eq_true c
      refine ⟨_, rfl, _, _, rfl, rfl, ?_⟩
      have e : decide (lo ≤ i ∧ i ≤ hi) = decide (i ≤ hi) := decide_eq_decide.mpr ⟨fun z => z.2, fun z => ⟨c', z⟩⟩
      rw [e] at q
      exact q
    · have c' : ¬ lo ≤ i := fun z => c (decide_eq_true z)
      rw [decide_eq_false (fun z => c' z.1)] at q
      exact q
end
end K8

namespace K8
open PySem L2
/-- the map of a list of numbers, one item more -/
theorem map_take {α β : Type} {l : List α} {i : Nat} {x : α} (f : α → β) (h : l[i]? = some x) : (l.take (i + 1)).map f = (l.take i).map f ++ [f x] := by
  rw [List.take_succ, h, List.map_append]
  rfl
theorem at_map {α β : Type} {l : List α} {f : α → β} {i : Nat} {y : β} (h : (l.map f)[i]? = some y) : ∃ x, l[i]? = some x ∧ y = f x := by
  rw [List.getElem?_map] at h
  obtain ⟨x, hx, e⟩ := Option.map_eq_some_iff.mp h
  exact ⟨x, hx, e.symm⟩
theorem lt_of_at {α : Type} {l : List α} {i : Nat} {x : α} (h : l[i]? = some x) : i < l.length := (List.getElem?_eq_some_iff.mp h).1
theorem take_all {α : Type} {l : List α} {n : Nat} (h : l.length ≤ n) : l.take n = l := List.take_of_length_le h
theorem small {n : Nat} (h : n ≤ 1000) : n ≤ sizeLine := Nat.le_of_lt (small1000 h)
def maskV (k : Int) : Int := 1 * 2 ^ k.toNat
def mask (ns : List Int) : Int := (ns.map maskV).sum
section
variable {P : Program} {w : World} {K : PySem.W.Frag} {mg : Str → Option Value} {base : Heap}
/-! ### mask_of -/
def spMask : Sp := fun vs H Q _ => ∃ (t : Addr) (ns : List Int), vs = [.ref t] ∧ H t = some (.tup (ns.map V.int)) ∧ ns.length ≤ 60 ∧ (∀ k ∈ ns, 0 ≤ k ∧ k < 60) ∧ ∀ H', Same H H' → Q (.int (mask ns)) H'
theorem ok_mask {f : Addr} {fd : FuncData} (F : Fun K "mask_of" "mask_of" sMask f fd) (T : Glb mg) : FnOk P w K mg base CX0 1 f fd ["parts"] spMask := by
  refine F.ok scMask (fun vs H Q E h => ?_) (fun cdv A outer s H vs Q E hr h => ?_)
  · obtain ⟨t, ns, rfl, _⟩ := h
    rfl
  · obtain ⟨t, ns, rfl, ht, hl, hk, q⟩ := h
    refine ⟨_, pss_one (ps_ret (pe_callB (cr_sum rfl) (by rfl) T.sum (by decide +kernel) (pa_cons
      (pe_lc (own := [("k", 1)]) (g := gName 1) (by rfl) scMask.nd (pi_tup (pv 0)) (blkOk_by (own := [("k", 1)]) (N := ["parts", "k"]) (sc := defScope sMask) (by decide +kernel))
        (fun _ _ _ _ _ => pg_name (i := 1) scMask.nd rfl (Or.inl rfl)) (fun _ _ _ _ _ => pts_nil) (fun _ _ _ _ _ => pe_op op_shl pe_int (pv 1))) pa_nil))), ?_⟩
    refine ⟨_, rfl, t, rfl, ⟨_, SqT.of ht⟩, fun D hD => lc_tup (K := K) (a := t) (xs := ns.map V.int) (fun i H' => Same H H' ∧ H' D = some (.lst (((ns.take i).map maskV).map V.int))) ⟨same_new hD _, upd_same⟩ (fun i H' _ hp => SqT.of (hp.1 _ _ ht)) ?_ ?_⟩
    · rintro i x H' hx ⟨hS, hD'⟩
      obtain ⟨k, hk', rfl⟩ := at_map hx
      have hkk := hk k (List.mem_of_getElem? hk')
      have hil := lt_of_at hk'
      refine ⟨rfl, yesT ?_⟩
      refine ⟨_, rfl, _, _, rfl, rfl, ⟨hkk.1, by omega, by decide⟩, _, hD', ?_, ?_, ?_⟩
      · rw [List.length_map, List.length_map, List.length_take]
        exact small1000 (by omega)
      · exact fun b o e => by rw [upd_ne (ne_of_none e hD)]; exact hS b o e
      · rw [upd_same, map_take maskV hk', List.map_append]
        rfl
    · rintro H' ⟨hS, hD'⟩
      rw [take_all (by rw [List.length_map]; exact Nat.le_refl _)] at hD'
      exact ⟨D, _, rfl, SqL.of hD', q H' hS⟩
end
end K8

namespace K8
open PySem L2
/-! ### the rules with the written part told (within a comprehension the context is another) -/
section
variable (K : PySem.W.Frag) {X : Cx} (e : X.K = K := by rfl)
include e
theorem ixT : IxR X (rIxT K) := by subst e; exact ix_tup
theorem ixL : IxR X (rIxL K) := by subst e; exact ix_list
def rTupOf : List V → Hp → VK → Prop := fun xs H Q => ∃ p ys, xs = [.ref p] ∧ ((SqL K H p ys ∧ ∀ l, H l = none → Q (.ref l) (upd H l (.tup ys))) ∨ (SqT K H p ys ∧ Q (.ref p) H))
theorem cTup : CallR X (.type "tuple") (rTupOf K) := by subst e; exact call_tuple_of
def rLstOf : List V → Hp → VK → Prop := fun xs H Q => ∃ p ys, xs = [.ref p] ∧ (SqL K H p ys ∨ SqT K H p ys) ∧ ∀ l, H l = none → Q (.ref l) (upd H l (.lst ys))
theorem cLst : CallR X (.type "list") (rLstOf K) := by subst e; exact call_list_of
def rLenOf : List V → Hp → VK → Prop := fun xs H Q => ∃ p ys, xs = [.ref p] ∧ (SqL K H p ys ∨ SqT K H p ys) ∧ Q (.int ys.length) H
theorem cLen : CallR X (.builtin "len") (rLenOf K) := by subst e; exact call_len_seq
theorem cSrtI : CallR X (.builtin "sorted") (rSorted K) := by subst e; exact cr_sorted
theorem cSrtT : CallR X (.builtin "sorted") (rSortT K) := by subst e; exact cr_sortT
theorem cSrtIT : CallR X (.builtin "sorted") (rSortIT K) := by subst e; exact cr_sortIT
theorem cIsi : CallR X (.builtin "isinstance") (rIsi K) := by subst e; exact call_isi
theorem cIsiT : CallR X (.builtin "isinstance") (rIsiT K) := by subst e; exact call_isiT
theorem oNotIn : OpR X (compareOp .NotIn) (rIn K true) := by subst e; exact op_notIn_seq
theorem oCatT : OpR X (binaryOp .Add) (rCatA K) := by subst e; exact op_catA
theorem slA : SlR X (rSlA K) := by subst e; exact sl_tupA
end
section
variable (K : PySem.W.Frag) {X : Cx}
theorem piT {tg l : Expr} {tl : TE} (h : PE X l tl) (e : X.K = K := by rfl) : PI X tg l (iTup K tl) := by subst e; exact pi_tup h
theorem piL {tg l : Expr} {tl : TE} (h : PE X l tl) (e : X.K = K := by rfl) : PI X tg l (iList K tl) := by subst e; exact pi_list h
theorem cMinS (hu : X.A.units + 64 < cLine) (e : X.K = K := by rfl) (hc : X.calm = true := by rfl) : CallR X (.builtin "min") (rMinS K) := by subst e; exact cr_minS hc hu
theorem oEqD (hu : X.A.units + 64 < cLine) (e : X.K = K := by rfl) : OpR X (compareOp .Eq) (rEqD K) := by subst e; exact op_eqD hu
theorem oNeD (hu : X.A.units + 64 < cLine) (e : X.K = K := by rfl) : OpR X (compareOp .NotEq) (rNeD K) := by subst e; exact op_neD hu
theorem oNotInD (hu : X.A.units + 65 < cLine) (e : X.K = K := by rfl) : OpR X (compareOp .NotIn) (rNotInD K) := by subst e; exact op_notInD hu
end
theorem room {k : Nat} {A : Around} (hr : Room k A) : A.units + 64 < cLine := Nat.lt_of_le_of_lt (Nat.le_refl _) hr.units
end K8

namespace K8
open PySem L2
/-- the scope of a comprehension -/
def lcScope : Expr → Scope
  | .ListComp _ _ sc _ => sc
  | _ => { kind := .function, names := [], isGenerator := false, isCoroutine := false }
def arg1 : Expr → Expr
  | .Call _ (a :: _) _ _ => a
  | e => e
def retE (s : Stmt) : Expr := match defBody s with
  | [.Return (some e) _] => e
  | _ => .Name "" ⟨0, 0, 0, 0⟩
def tupI : Expr → Nat → Expr
  | .Tuple es _ _, i => es.getD i (.Name "" ⟨0, 0, 0, 0⟩)
  | e, _ => e
/-- a comprehension's scope within a def's -/
def rel (sc out : Scope) : Scope := { sc with names := sc.names.map fun (n, k) => if (k == NameKind.free && out.kind == .function && out.names.lookup n == some .cell) then (n, NameKind.cell) else (n, k) }
def turnComp (s : Stmt) : Expr := arg1 (arg1 (tupI (retE s) 1))
theorem asc_len {n : Nat} {l : List Int} (h : l.Pairwise (· < ·)) (hr : ∀ k ∈ l, 0 ≤ k ∧ k < n) : l.length ≤ n := by
  have nd := asc_nodup h
  have sp : l.Sublist (rng n) ∨ l.length ≤ n := .inr (by
    have hs : ∀ x ∈ l, x ∈ rng n := fun x hx => mem_rng.mpr (hr x hx)
    have : l.length ≤ (rng n).length := by
      rcases Nat.lt_or_ge (rng n).length l.length with c | c
      · have e := full l (rng n) nd hs (Nat.le_of_lt c)
        have pm : l.Perm (rng n) := (List.perm_ext_iff_of_nodup nd (rng_nodup n)).mpr fun x => ⟨hs x, e x⟩
        rw [pm.length_eq]
        exact Nat.le_refl _
      · exact c
    rw [rng_length] at this
    exact this)
  rcases sp with s | s
  · have := s.length_le
    rw [rng_length] at this
    exact this
  · exact s
section
variable {P : Program} {w : World} {K : PySem.W.Frag} {mg : Str → Option Value} {base : Heap}
/-- what both renamings promise -/
def spTurn : Sp := fun vs H Q _ => ∃ (n : Nat) (t o : Addr) (sy : Sy) (os : List Int), vs = [.ref t, .ref o] ∧ Valid n sy ∧ H o = some (.tup (os.map V.int)) ∧ SyAt H t sy ∧ IsOrd n os ∧ ∀ r H', Same H H' → SyAt H' r (turn sy os) → Q (.ref r) H'

/-! ### turned -/
theorem ok_turned {f : Addr} {fd : FuncData} (F : Fun K "turned" "turned" sTurned f fd) (T : Glb mg) : FnOk P w K mg base CX0 1 f fd ["system", "order"] spTurn := by
  refine F.ok scTurned (fun vs H Q E h => ?_) (fun cdv A outer s H vs Q E hr h => ?_)
  · obtain ⟨n, t, o, sy, os, rfl, _⟩ := h
    rfl
  · obtain ⟨n, t, o, sy, os, rfl, hv, ho, ⟨u, ks, ht, hu, htu, ek⟩, hO, q⟩ := h
    refine ⟨_, pss_one (ps_ret (pe_tup (pa_cons (pe_ix (ixT K) (pv 0) pe_int (fun _ _ => rfl)) (pa_cons
      (pe_callTy (cTup K) (by rfl) T.tuple (by decide +kernel) (pa_cons (pe_callB (cSrtT K) (by rfl) T.sorted (by decide +kernel) (pa_cons
        (pe_lc (own := [("path", 2)]) (g := gName 2) (by rfl) scTurned.nd (piT K (pe_ix (ixT K) (pv 0) pe_int (fun _ _ => rfl))) (blkOk_by (own := [("path", 2)]) (N := ["system", "order", "path", "k"]) (sc := defScope sTurned) (by decide +kernel))
          (fun _ _ _ _ _ => pg_name (i := 2) scTurned.nd rfl (Or.inl rfl)) (fun _ _ _ _ _ => pts_nil) (fun _ _ _ _ _ =>
            pe_callTy (cTup K) (by rfl) T.tuple (by decide +kernel) (pa_cons (pe_callB (cSrtI K) (by rfl) T.sorted (by decide +kernel) (pa_cons
              (pe_lc (own := [("k", 3)]) (g := gName 3) (by rfl) scTurned.nd (piT K (pv 2)) (blkOk_by (own := [("k", 3)]) (N := ["system", "order", "path", "k"]) (sc := rel (lcScope (turnComp sTurned)) (defScope sTurned)) (by decide +kernel))
                (fun _ _ _ _ _ => pg_name (i := 3) scTurned.nd rfl (Or.inl rfl)) (fun _ _ _ _ _ => pts_nil) (fun _ _ _ _ _ => pe_ix (ixT K) (pv 1) (pv 3) (fun _ _ => rfl))) pa_nil)) pa_nil))) pa_nil)) pa_nil)) pa_nil)))), ?_⟩
    refine ⟨_, rfl, t, _, 0, _, rfl, rfl, SqT.of ht, atI_nat (j := 0) rfl, ?_⟩
    refine ⟨_, rfl, t, _, 1, _, rfl, rfl, SqT.of ht, atI_nat (j := 1) rfl, u, rfl, ⟨_, SqT.of hu⟩, fun D hD => ?_⟩
    have rgs : ∀ p ∈ ks, ∀ k ∈ p.2, 0 ≤ k ∧ k < n := fun p hp => hv.sets.rg p.2 (by rw [← ek]; exact List.mem_map.mpr ⟨p, hp, rfl⟩)
    refine lc_tup (K := K) (a := u) (xs := refs ks) (fun i H' => Same H H' ∧ ∃ ks', H' D = some (.lst (refs ks')) ∧ Tups H' ks' ∧ kys ks' = (ks.take i).map (fun p => srtI (p.2.map (get os))))
      ⟨same_new hD _, [], upd_same, (fun p hp => by cases hp), rfl⟩ (fun i H' _ hp => SqT.of (hp.1 _ _ hu)) ?_ ?_
    · rintro i x H1 hx ⟨hS, ks', hD1, hT1, e1⟩
      obtain ⟨p, hp, rfl⟩ := at_map hx
      have hpm := List.mem_of_getElem? hp
      have hpT : H1 p.1 = some (.tup (p.2.map V.int)) := hS _ _ (htu p hpm)
      have hpl : p.2.length ≤ 5 := by
        have h1 := hv.sets.asc p.2 (by rw [← ek]; exact List.mem_map.mpr ⟨p, hpm, rfl⟩)
        exact Nat.le_trans (asc_len h1 (rgs p hpm)) hv.hi
      refine ⟨rfl, yesT ?_⟩
      refine ⟨_, rfl, p.1, rfl, ⟨_, SqT.of hpT⟩, fun D2 hD2 => ?_⟩
      refine lc_tup (K := K) (a := p.1) (xs := p.2.map V.int) (fun j H' => Same H1 H' ∧ H' D2 = some (.lst (((p.2.take j).map (get os)).map V.int))) ⟨same_new hD2 _, upd_same⟩ (fun j H' _ hq => SqT.of (hq.1 _ _ hpT)) ?_ ?_
      · rintro j y H2 hy ⟨hS2, hD3⟩
        obtain ⟨k, hk, rfl⟩ := at_map hy
        have hkr := rgs p hpm k (List.mem_of_getElem? hk)
        have hjl := lt_of_at hk
        refine ⟨rfl, yesT ?_⟩
        have ho2 : H2 o = some (.tup (os.map V.int)) := hS2 _ _ (hS _ _ ho)
        refine ⟨_, rfl, _, rfl, o, _, k, .int (get os k), rfl, rfl, SqT.of ho2, at_of (j := k.toNat) (by omega) (by rw [List.getElem?_map, get_at hO hkr.1 hkr.2]; rfl), _, hD3, ?_, ?_, ?_⟩
        · rw [List.length_map, List.length_map, List.length_take]
          exact small1000 (by omega)
        · exact fun b z e => by rw [upd_ne (ne_of_none e hD2)]; exact hS2 b z e
        · rw [upd_same, map_take (get os) hk, List.map_append]
          rfl
      · rintro H2 ⟨hS2, hD3⟩
        rw [take_all (by rw [List.length_map]; exact Nat.le_refl _)] at hD3
        refine ⟨D2, p.2.map (get os), rfl, SqL.of hD3, by rw [List.length_map]; omega, fun ns' z pm so hz => ?_⟩
        have en : ns' = srtI (p.2.map (get os)) := srt_unique sto_ilt pm (so.imp fun {a b} q => by unfold ilt; exact decide_eq_false (by omega))
        have S3 := same_new hz (.lst (ns'.map V.int))
        refine ⟨z, ns'.map V.int, rfl, .inl ⟨SqL.of upd_same, fun l hl => ?_⟩⟩
        have S4 := same_new hl (.tup (ns'.map V.int))
        have S14 := hS2.trans (S3.trans S4)
        have hDl := S14 _ _ hD1
        refine ⟨_, hDl, ?_, ?_, ks' ++ [(l, ns')], ?_, ?_, ?_⟩
        · rw [List.length_map]
          have : ks'.length = min i ks.length := by
            have := congrArg List.length e1
            rw [List.length_map, List.length_map, List.length_take] at this
            exact this
          have := hv.few
          rw [← ek, List.length_map] at this
          exact small1000 (by omega)
        · exact fun b z e => by rw [upd_ne (ne_of_none e hD)]; exact S14 _ _ (hS b z e)
        · rw [upd_same, refs_app]
        · intro r hr2
          rcases List.mem_append.mp hr2 with h | h
          · have := S14 _ _ (hT1 r h)
            rw [upd_ne (ne_of this hDl (by intro z; cases z))]
            exact this
          · rw [List.mem_singleton.mp h]
            have : (upd (upd H2 z (HO.lst (ns'.map V.int))) l (HO.tup (ns'.map V.int))) l = some (.tup (ns'.map V.int)) := upd_same
            rw [upd_ne (ne_of this hDl (by intro z; cases z))]
            exact this
        · rw [kys_app, e1, map_take (fun p : Addr × List Int => srtI (p.2.map (get os))) hp, en]
    · rintro H1 ⟨hS, ks', hD1, hT1, e1⟩
      rw [take_all (by rw [List.length_map]; exact Nat.le_refl _)] at e1
      have e2 : kys ks' = sy.2.map (fun ps => srtI (ps.map (get os))) := by rw [e1, ← ek, List.map_map]; rfl
      refine ⟨D, ks', rfl, SqL.of hD1, (fun p hp => SqT.of (hT1 p hp)), fun h2 p hp => ?_, fun ks2 z pm so hz => ?_⟩
      · have hl2 : 2 ≤ sy.2.length := by
          have := congrArg List.length e2
          rw [List.length_map, List.length_map] at this
          omega
        have hm : p.2 ∈ sy.2.map (fun ps => srtI (ps.map (get os))) := by rw [← e2]; exact List.mem_map.mpr ⟨p, hp, rfl⟩
        obtain ⟨ps, hps, e3⟩ := List.mem_map.mp hm
        have h3 := ne_of_two (nodup_of_strict sto_llt hv.sets.ord) hv.sets.anti hl2 ps hps
        intro e4
        rw [e4] at e3
        have e5 := congrArg List.length e3
        rw [(srtI_perm _).length_eq, List.length_map] at e5
        exact h3 (List.length_eq_zero_iff.mp e5)
      · have en : kys ks2 = srtT (kys ks') := srt_unique sto_llt (pm.map _) so
        have S3 := same_new hz (.lst (refs ks2))
        refine ⟨z, refs ks2, rfl, .inl ⟨SqL.of upd_same, fun l hl => ?_⟩⟩
        have S4 := same_new hl (.tup (refs ks2))
        refine ⟨(by show 2 ≤ sizeLine; decide), fun r hr2 => ?_⟩
        have S5 := same_new hr2 (.tup [V.int sy.1, .ref l])
        have S1 := hS.trans (S3.trans (S4.trans S5))
        have S15 := S3.trans (S4.trans S5)
        refine q r _ S1 ⟨l, ks2, upd_same, ?_, fun p hp => S15 _ _ (hT1 p (pm.mem_iff.mp hp)), ?_⟩
        · exact S5 _ _ upd_same
        · rw [en, e2]
          rfl

/-! ### _law_renamed -/
theorem ok_lren {f : Addr} {fd : FuncData} (F : Fun K "_law_renamed" "_law_renamed" sLRen f fd) (T : Glb mg) : FnOk P w K mg base CX0 1 f fd ["_law_system_here", "_law_order_here"] spTurn := by
  refine F.ok scLRen (fun vs H Q E h => ?_) (fun cdv A outer s H vs Q E hr h => ?_)
  · obtain ⟨n, t, o, sy, os, rfl, _⟩ := h
    rfl
  · obtain ⟨n, t, o, sy, os, rfl, hv, ho, ⟨u, ks, ht, hu, htu, ek⟩, hO, q⟩ := h
    refine ⟨_, pss_one (ps_ret (pe_tup (pa_cons (pe_ix (ixT K) (pv 0) pe_int (fun _ _ => rfl)) (pa_cons
      (pe_callTy (cTup K) (by rfl) T.tuple (by decide +kernel) (pa_cons (pe_callB (cSrtT K) (by rfl) T.sorted (by decide +kernel) (pa_cons
        (pe_lc (own := [("_law_path", 2)]) (g := gName 2) (by rfl) scLRen.nd (piT K (pe_ix (ixT K) (pv 0) pe_int (fun _ _ => rfl))) (blkOk_by (own := [("_law_path", 2)]) (N := ["_law_system_here", "_law_order_here", "_law_path", "_law_k"]) (sc := defScope sLRen) (by decide +kernel))
          (fun _ _ _ _ _ => pg_name (i := 2) scLRen.nd rfl (Or.inl rfl)) (fun _ _ _ _ _ => pts_nil) (fun _ _ _ _ _ =>
            pe_callTy (cTup K) (by rfl) T.tuple (by decide +kernel) (pa_cons (pe_callB (cSrtI K) (by rfl) T.sorted (by decide +kernel) (pa_cons
              (pe_lc (own := [("_law_k", 3)]) (g := gName 3) (by rfl) scLRen.nd (piT K (pv 2)) (blkOk_by (own := [("_law_k", 3)]) (N := ["_law_system_here", "_law_order_here", "_law_path", "_law_k"]) (sc := rel (lcScope (turnComp sLRen)) (defScope sLRen)) (by decide +kernel))
                (fun _ _ _ _ _ => pg_name (i := 3) scLRen.nd rfl (Or.inl rfl)) (fun _ _ _ _ _ => pts_nil) (fun _ _ _ _ _ => pe_ix (ixT K) (pv 1) (pv 3) (fun _ _ => rfl))) pa_nil)) pa_nil))) pa_nil)) pa_nil)) pa_nil)))), ?_⟩
    refine ⟨_, rfl, t, _, 0, _, rfl, rfl, SqT.of ht, atI_nat (j := 0) rfl, ?_⟩
    refine ⟨_, rfl, t, _, 1, _, rfl, rfl, SqT.of ht, atI_nat (j := 1) rfl, u, rfl, ⟨_, SqT.of hu⟩, fun D hD => ?_⟩
    have rgs : ∀ p ∈ ks, ∀ k ∈ p.2, 0 ≤ k ∧ k < n := fun p hp => hv.sets.rg p.2 (by rw [← ek]; exact List.mem_map.mpr ⟨p, hp, rfl⟩)
    refine lc_tup (K := K) (a := u) (xs := refs ks) (fun i H' => Same H H' ∧ ∃ ks', H' D = some (.lst (refs ks')) ∧ Tups H' ks' ∧ kys ks' = (ks.take i).map (fun p => srtI (p.2.map (get os))))
      ⟨same_new hD _, [], upd_same, (fun p hp => by cases hp), rfl⟩ (fun i H' _ hp => SqT.of (hp.1 _ _ hu)) ?_ ?_
    · rintro i x H1 hx ⟨hS, ks', hD1, hT1, e1⟩
      obtain ⟨p, hp, rfl⟩ := at_map hx
      have hpm := List.mem_of_getElem? hp
      have hpT : H1 p.1 = some (.tup (p.2.map V.int)) := hS _ _ (htu p hpm)
      have hpl : p.2.length ≤ 5 := by
        have h1 := hv.sets.asc p.2 (by rw [← ek]; exact List.mem_map.mpr ⟨p, hpm, rfl⟩)
        exact Nat.le_trans (asc_len h1 (rgs p hpm)) hv.hi
      refine ⟨rfl, yesT ?_⟩
      refine ⟨_, rfl, p.1, rfl, ⟨_, SqT.of hpT⟩, fun D2 hD2 => ?_⟩
      refine lc_tup (K := K) (a := p.1) (xs := p.2.map V.int) (fun j H' => Same H1 H' ∧ H' D2 = some (.lst (((p.2.take j).map (get os)).map V.int))) ⟨same_new hD2 _, upd_same⟩ (fun j H' _ hq => SqT.of (hq.1 _ _ hpT)) ?_ ?_
      · rintro j y H2 hy ⟨hS2, hD3⟩
        obtain ⟨k, hk, rfl⟩ := at_map hy
        have hkr := rgs p hpm k (List.mem_of_getElem? hk)
        have hjl := lt_of_at hk
        refine ⟨rfl, yesT ?_⟩
        have ho2 : H2 o = some (.tup (os.map V.int)) := hS2 _ _ (hS _ _ ho)
        refine ⟨_, rfl, _, rfl, o, _, k, .int (get os k), rfl, rfl, SqT.of ho2, at_of (j := k.toNat) (by omega) (by rw [List.getElem?_map, get_at hO hkr.1 hkr.2]; rfl), _, hD3, ?_, ?_, ?_⟩
        · rw [List.length_map, List.length_map, List.length_take]
          exact small1000 (by omega)
        · exact fun b z e => by rw [upd_ne (ne_of_none e hD2)]; exact hS2 b z e
        · rw [upd_same, map_take (get os) hk, List.map_append]
          rfl
      · rintro H2 ⟨hS2, hD3⟩
        rw [take_all (by rw [List.length_map]; exact Nat.le_refl _)] at hD3
        refine ⟨D2, p.2.map (get os), rfl, SqL.of hD3, by rw [List.length_map]; omega, fun ns' z pm so hz => ?_⟩
        have en : ns' = srtI (p.2.map (get os)) := srt_unique sto_ilt pm (so.imp fun {a b} q => by unfold ilt; exact decide_eq_false (by omega))
        have S3 := same_new hz (.lst (ns'.map V.int))
        refine ⟨z, ns'.map V.int, rfl, .inl ⟨SqL.of upd_same, fun l hl => ?_⟩⟩
        have S4 := same_new hl (.tup (ns'.map V.int))
        have S14 := hS2.trans (S3.trans S4)
        have hDl := S14 _ _ hD1
        refine ⟨_, hDl, ?_, ?_, ks' ++ [(l, ns')], ?_, ?_, ?_⟩
        · rw [List.length_map]
          have : ks'.length = min i ks.length := by
            have := congrArg List.length e1
            rw [List.length_map, List.length_map, List.length_take] at this
            exact this
          have := hv.few
          rw [← ek, List.length_map] at this
          exact small1000 (by omega)
        · exact fun b z e => by rw [upd_ne (ne_of_none e hD)]; exact S14 _ _ (hS b z e)
        · rw [upd_same, refs_app]
        · intro r hr2
          rcases List.mem_append.mp hr2 with h | h
          · have := S14 _ _ (hT1 r h)
            rw [upd_ne (ne_of this hDl (by intro z; cases z))]
            exact this
          · rw [List.mem_singleton.mp h]
            have : (upd (upd H2 z (HO.lst (ns'.map V.int))) l (HO.tup (ns'.map V.int))) l = some (.tup (ns'.map V.int)) := upd_same
            rw [upd_ne (ne_of this hDl (by intro z; cases z))]
            exact this
        · rw [kys_app, e1, map_take (fun p : Addr × List Int => srtI (p.2.map (get os))) hp, en]
    · rintro H1 ⟨hS, ks', hD1, hT1, e1⟩
      rw [take_all (by rw [List.length_map]; exact Nat.le_refl _)] at e1
      have e2 : kys ks' = sy.2.map (fun ps => srtI (ps.map (get os))) := by rw [e1, ← ek, List.map_map]; rfl
      refine ⟨D, ks', rfl, SqL.of hD1, (fun p hp => SqT.of (hT1 p hp)), fun h2 p hp => ?_, fun ks2 z pm so hz => ?_⟩
      · have hl2 : 2 ≤ sy.2.length := by
          have := congrArg List.length e2
          rw [List.length_map, List.length_map] at this
          omega
        have hm : p.2 ∈ sy.2.map (fun ps => srtI (ps.map (get os))) := by rw [← e2]; exact List.mem_map.mpr ⟨p, hp, rfl⟩
        obtain ⟨ps, hps, e3⟩ := List.mem_map.mp hm
        have h3 := ne_of_two (nodup_of_strict sto_llt hv.sets.ord) hv.sets.anti hl2 ps hps
        intro e4
        rw [e4] at e3
        have e5 := congrArg List.length e3
        rw [(srtI_perm _).length_eq, List.length_map] at e5
        exact h3 (List.length_eq_zero_iff.mp e5)
      · have en : kys ks2 = srtT (kys ks') := srt_unique sto_llt (pm.map _) so
        have S3 := same_new hz (.lst (refs ks2))
        refine ⟨z, refs ks2, rfl, .inl ⟨SqL.of upd_same, fun l hl => ?_⟩⟩
        have S4 := same_new hl (.tup (refs ks2))
        refine ⟨(by show 2 ≤ sizeLine; decide), fun r hr2 => ?_⟩
        have S5 := same_new hr2 (.tup [V.int sy.1, .ref l])
        have S1 := hS.trans (S3.trans (S4.trans S5))
        have S15 := S3.trans (S4.trans S5)
        refine q r _ S1 ⟨l, ks2, upd_same, ?_, fun p hp => S15 _ _ (hT1 p (pm.mem_iff.mp hp)), ?_⟩
        · exact S5 _ _ upd_same
        · rw [en, e2]
          rfl
end
end K8

namespace K8
open PySem L2
/-- all but r stays -/
def But (r : Addr) (H H' : Hp) : Prop := ∀ b o, H b = some o → b ≠ r → H' b = some o
theorem But.refl (r : Addr) (H : Hp) : But r H H := fun _ _ h _ => h
theorem But.trans {r : Addr} {H H1 H2 : Hp} (a : But r H H1) (b : But r H1 H2) : But r H H2 := fun c o h n => b c o (a c o h n) n
theorem sbut {r : Addr} {H H' : Hp} (a : Same H H') : But r H H' := fun c o h _ => a c o h
theorem but_upd (r : Addr) (H : Hp) (o : HO) : But r H (upd H r o) := fun b z h n => by rw [upd_ne n]; exact h
theorem But.seq {K : PySem.W.Frag} {r : Addr} {H H' : Hp} {a : Addr} {xs : List V} (e : But r H H') (n : a ≠ r) (h : SqL K H a xs) : SqL K H' a xs := by
  rcases h with (h | ⟨o, h⟩) | h
  · exact .inl (.inl (e _ _ h n))
  · exact .inl (.inr ⟨o, e _ _ h n⟩)
  · exact .inr h
/-- the law's row of draws -/
structure RowOk (K : PySem.W.Frag) (H : Hp) (r sc : Addr) (ns : List Int) : Prop where
  at_ : ∃ p q e : Int, H r = some (.lst [.ref sc, .int p, .int q, .int e]) ∧ 0 ≤ p ∧ 0 ≤ q ∧ q < 2147483647
  sq : ∀ H', But r H H' → SqL K H' sc (ns.map V.int)
theorem RowOk.mono {K : PySem.W.Frag} {H H' : Hp} {r sc : Addr} {ns : List Int} (h : RowOk K H r sc ns) (e : Same H H') : RowOk K H' r sc ns := by
  obtain ⟨p, q, z, h1, h2⟩ := h.at_
  exact ⟨⟨p, q, z, e _ _ h1, h2⟩, fun H2 B => h.sq H2 (fun b o eb nb => B b o (e b o eb) nb)⟩
theorem RowOk.lst {K : PySem.W.Frag} {H : Hp} {r sc : Addr} {ns : List Int} (h : RowOk K H r sc ns) : ∃ xs, H r = some (.lst xs) := by
  obtain ⟨p, q, z, h1, h2⟩ := h.at_
  exact ⟨_, h1⟩
section
variable {P : Program} {w : World} {K : PySem.W.Frag} {mg : Str → Option Value} {base : Heap}
/-! ### _law_taken -/
def spTaken (K : PySem.W.Frag) : Sp := fun vs H Q _ => ∃ (r sc : Addr) (ns : List Int) (m : Int), vs = [.ref r, .int m] ∧ RowOk K H r sc ns ∧ 1 ≤ m ∧ m ≤ 100 ∧
  ∀ v H', 0 ≤ v → v < m → But r H H' → RowOk K H' r sc ns → Q (.int v) H'
theorem ok_taken {f : Addr} {fd : FuncData} (F : Fun K "_law_taken" "_law_taken" sTaken f fd) (T : Glb mg) : FnOk P w K mg base CX0 1 f fd ["_law_row", "_law_many"] (spTaken K) := by
  refine F.ok scTaken (fun vs H Q E h => ?_) (fun cdv A outer s H vs Q E hr h => ?_)
  · obtain ⟨r, sc, ns, m, rfl, _⟩ := h
    rfl
  · obtain ⟨r, sc, ns, m, rfl, ⟨⟨p, q, e, h, hp, hq0, hq1⟩, hsq⟩, m0, m1, k⟩ := h
    refine ⟨_, pss_cons (ps_if (pt_cmpR op_gt (pe_ix (ixL K) (pv 0) pe_int (fun _ _ => rfl)) pe_int (nomark _))
        (pss_cons (ps_set (i := 2) scTaken.nd rfl (.inl rfl) (pe_op op_mod (pe_callTy call_int1 (by rfl) T.int (by decide +kernel) (pa_cons (pe_ix (ixL K) (pv 0) pe_int (fun _ _ => rfl)) pa_nil)) (pv 1)))
        (pss_cons (ps_asg (pe_op op_fdiv (pe_ix (ixL K) (pv 0) pe_int (fun _ _ => rfl)) (pv 1)) (pg_sub (pv 0) pe_int set_list))
        (pss_one (ps_ret (pv 2))))) pss_nil)
      (pss_cons (ps_asg (pe_op op_add (pe_ix (ixL K) (pv 0) pe_int (fun _ _ => rfl)) pe_int) (pg_sub (pv 0) pe_int set_list))
      (pss_cons (ps_if (pt_cmpR op_gt (pe_ix (ixL K) (pv 0) pe_int (fun _ _ => rfl)) (pe_callB (cLen K) (by rfl) T.len (by decide +kernel) (pa_cons (pe_ix (ixL K) (pv 0) pe_int (fun _ _ => rfl)) pa_nil)) (nomark _))
        (pss_cons (ps_asg (pe_op op_mod (pe_callTy call_int1 (by rfl) T.int (by decide +kernel) (pa_cons (pe_op op_add (pe_op op_mul (pe_ix (ixL K) (pv 0) pe_int (fun _ _ => rfl)) pe_int) pe_int) pa_nil)) pe_int) (pg_sub (pv 0) pe_int set_list))
        (pss_one (ps_ret (pe_op op_mod (pe_callTy call_int1 (by rfl) T.int (by decide +kernel) (pa_cons (pe_op op_fdiv (pe_ix (ixL K) (pv 0) pe_int (fun _ _ => rfl)) pe_int) pa_nil)) (pv 1))))) pss_nil)
      (pss_cons (ps_set (i := 3) scTaken.nd rfl (.inl rfl) (pe_ix (ixL K) (pe_ix (ixL K) (pv 0) pe_int (fun _ _ => rfl)) (pe_op op_sub (pe_ix (ixL K) (pv 0) pe_int (fun _ _ => rfl)) pe_int) (fun _ _ => rfl)))
      (pss_cons (ps_asg (pe_op op_mod (pe_callTy call_int1 (by rfl) T.int (by decide +kernel) (pa_cons (pe_op op_add (pe_op op_add (pe_op op_mul (pe_ix (ixL K) (pv 0) pe_int (fun _ _ => rfl)) pe_int) (pv 3)) pe_int) pa_nil)) pe_int) (pg_sub (pv 0) pe_int set_list))
      (pss_cons (ps_if (pt_cmpR op_ge (pv 3) (pe_op op_pow pe_int pe_int) (nomark _))
        (pss_one (ps_asg (pe_op op_fdiv (pv 3) (pv 1)) (pg_sub (pv 0) pe_int set_list))) pss_nil)
      (pss_one (ps_ret (pe_op op_mod (pe_callTy call_int1 (by rfl) T.int (by decide +kernel) (pa_cons (pv 3) pa_nil)) (pv 1))))))))), ?_⟩
    have mpos : 0 < m := by omega
    have emod : ∀ x : Int, 0 ≤ x % m ∧ x % m < m := fun x => ⟨Int.emod_nonneg _ (by omega), Int.emod_lt_of_pos _ mpos⟩
    have emo2 : ∀ x : Int, 0 ≤ x % 2147483647 ∧ x % 2147483647 < 2147483647 := fun x => ⟨Int.emod_nonneg _ (by decide), Int.emod_lt_of_pos _ (by decide)⟩
    refine ⟨_, rfl, r, _, 3, _, rfl, rfl, SqL.of h, atI_nat (j := 3) rfl, _, _, rfl, rfl, _, rfl, ite2 (fun c => ?_) (fun c => ?_)⟩
    · refine ⟨_, rfl, r, _, 3, _, rfl, rfl, SqL.of h, atI_nat (j := 3) rfl, .inl ⟨_, rfl, _, rfl, _, _, rfl, rfl, mpos, ?_⟩⟩
      refine ⟨_, rfl, r, _, 3, _, rfl, rfl, SqL.of h, atI_nat (j := 3) rfl, _, rfl, _, _, rfl, rfl, ⟨mpos, by omega⟩, _, rfl, r, _, 3, 3, rfl, rfl, h, rfl, ?_⟩
      refine ⟨_, rfl, k _ _ (emod e).1 (emod e).2 (but_upd r H _) ⟨⟨p, q, e / m, upd_same, hp, hq0, hq1⟩, fun H2 B2 => hsq H2 ((but_upd r H _).trans B2)⟩⟩
    · refine ⟨_, rfl, r, _, 1, _, rfl, rfl, SqL.of h, atI_nat (j := 1) rfl, _, _, rfl, rfl, _, rfl, r, _, 1, 1, rfl, rfl, h, rfl, ?_⟩
      have B1 := but_upd r H (.lst [.ref sc, .int (p + 1), .int q, .int e])
      have g1 : (upd H r (.lst [.ref sc, .int (p + 1), .int q, .int e])) r = some (.lst [.ref sc, .int (p + 1), .int q, .int e]) := upd_same
      have s1 := hsq _ B1
      refine ⟨_, rfl, r, _, 1, _, rfl, rfl, SqL.of g1, atI_nat (j := 1) rfl, _, rfl, r, _, 0, _, rfl, rfl, SqL.of g1, atI_nat (j := 0) rfl, sc, _, rfl, .inl s1, _, _, rfl, rfl, _, rfl, ite2 (fun c2 => ?_) (fun c2 => ?_)⟩
      · refine ⟨_, rfl, r, _, 2, _, rfl, rfl, SqL.of g1, atI_nat (j := 2) rfl, _, _, rfl, rfl, .inl ⟨by omega, by omega⟩, _, _, rfl, rfl, .inl ⟨_, rfl, _, _, rfl, rfl, (by show (0 : Int) < 2147483647; decide), ?_⟩⟩
        refine ⟨_, rfl, r, _, 2, 2, rfl, rfl, g1, rfl, ?_⟩
        have g2 : (upd (upd H r (.lst [.ref sc, .int (p + 1), .int q, .int e])) r (.lst [.ref sc, .int (p + 1), .int ((q * 48271 + 11) % 2147483647), .int e])) r = some (.lst [.ref sc, .int (p + 1), .int ((q * 48271 + 11) % 2147483647), .int e]) := upd_same
        have B2 := B1.trans (but_upd r (upd H r (.lst [.ref sc, .int (p + 1), .int q, .int e])) (.lst [.ref sc, .int (p + 1), .int ((q * 48271 + 11) % 2147483647), .int e]))
        refine ⟨_, rfl, r, _, 2, _, rfl, rfl, SqL.of g2, atI_nat (j := 2) rfl, _, _, rfl, rfl, ⟨by decide, by decide⟩, .inl ⟨_, rfl, _, rfl, _, _, rfl, rfl, mpos, ?_⟩⟩
        exact k _ _ (emod _).1 (emod _).2 B2 ⟨⟨_, _, _, g2, by omega, (emo2 _).1, (emo2 _).2⟩, fun HX BX => hsq HX (B2.trans BX)⟩
      · have c3 : ¬ ((ns.map V.int).length : Int) < p + 1 := fun z => c2 (decide_eq_true z)
        rw [List.length_map] at c3
        have hlt : p.toNat < ns.length := by omega
        have hcell : (ns.map V.int)[p.toNat]? = some (.int ns[p.toNat]) := by rw [List.getElem?_map, List.getElem?_eq_getElem hlt]; rfl
        generalize ns[p.toNat] = cell at hcell
        refine ⟨_, rfl, r, _, 0, _, rfl, rfl, SqL.of g1, atI_nat (j := 0) rfl, _, rfl, r, _, 1, _, rfl, rfl, SqL.of g1, atI_nat (j := 1) rfl, _, _, rfl, rfl, sc, _, _, _, rfl, rfl, s1, at_of (j := p.toNat) (by omega) hcell, ?_⟩
        refine ⟨_, rfl, r, _, 2, _, rfl, rfl, SqL.of g1, atI_nat (j := 2) rfl, _, _, rfl, rfl, .inl ⟨by omega, by omega⟩, _, rfl, _, _, rfl, rfl, _, _, rfl, rfl, .inl ⟨_, rfl, _, _, rfl, rfl, (by show (0 : Int) < 2147483647; decide), ?_⟩⟩
        refine ⟨_, rfl, r, _, 2, 2, rfl, rfl, g1, rfl, ?_⟩
        have g2 : (upd (upd H r (.lst [.ref sc, .int (p + 1), .int q, .int e])) r (.lst [.ref sc, .int (p + 1), .int ((q * 48271 + cell + 11) % 2147483647), .int e])) r = some (.lst [.ref sc, .int (p + 1), .int ((q * 48271 + cell + 11) % 2147483647), .int e]) := upd_same
        have B2 := B1.trans (but_upd r (upd H r (.lst [.ref sc, .int (p + 1), .int q, .int e])) (.lst [.ref sc, .int (p + 1), .int ((q * 48271 + cell + 11) % 2147483647), .int e]))
        refine ⟨_, rfl, _, _, rfl, rfl, ⟨by decide, by decide, by decide⟩, _, _, rfl, rfl, _, rfl, ite2 (fun c4 => ?_) (fun c4 => ?_)⟩
        · refine ⟨_, rfl, _, rfl, _, _, rfl, rfl, ⟨mpos, by omega⟩, _, rfl, r, _, 3, 3, rfl, rfl, g2, rfl, ?_⟩
          have g3 : ∀ z : Hp, (upd z r (.lst [.ref sc, .int (p + 1), .int ((q * 48271 + cell + 11) % 2147483647), .int (cell / m)])) r = some (.lst [.ref sc, .int (p + 1), .int ((q * 48271 + cell + 11) % 2147483647), .int (cell / m)]) := fun z => upd_same
          have B3 := B2.trans (but_upd r _ (.lst [.ref sc, .int (p + 1), .int ((q * 48271 + cell + 11) % 2147483647), .int (cell / m)]))
          refine ⟨_, rfl, .inl ⟨_, rfl, _, rfl, _, _, rfl, rfl, mpos, ?_⟩⟩
          exact k _ _ (emod _).1 (emod _).2 B3 ⟨⟨_, _, _, g3 _, by omega, (emo2 _).1, (emo2 _).2⟩, fun HX BX => hsq HX (B3.trans BX)⟩
        · refine ⟨_, rfl, .inl ⟨_, rfl, _, rfl, _, _, rfl, rfl, mpos, ?_⟩⟩
          exact k _ _ (emod _).1 (emod _).2 B2 ⟨⟨_, _, _, g2, by omega, (emo2 _).1, (emo2 _).2⟩, fun HX BX => hsq HX (B2.trans BX)⟩
end
end K8

namespace K8
open PySem L2
/-- a def of the program, called by its name -/
structure Can (P : Program) (w : World) (K : PySem.W.Frag) (mg : Str → Option Value) (base : Heap) (k : Nat) (name : Str) (ps : List Str) (sp : Sp) : Prop where
  ex : ∃ (f : Addr) (fd : FuncData), FnOk P w K mg base CX0 k f fd ps sp ∧ mg name = some (.ref f) ∧ PySem.W.keepIn K (.ref f) = true ∧ Binds K fd ps []

/-! ### slices and sums of tuples -/
theorem slA_use {K : PySem.W.Frag} {a : Addr} {xs : List V} {lo hi : Option Int} {H : Hp} {Q : VK} (h : H a = some (.tup xs)) (q : ∀ p H', Same H H' → H' p = some (.tup (cutV xs lo hi)) → Q (.ref p) H') : rSlA K (.ref a) lo hi H Q := by
  refine ⟨a, xs, rfl, SqT.of h, fun hw => q a H (Same.refl H) ?_, fun _ p hp => q p _ (same_new hp _) upd_same⟩
  rw [h]
  unfold cutV
  rw [hw.1, hw.2, List.drop_zero, Nat.sub_zero, List.take_length]
theorem catA_use {K : PySem.W.Frag} {a b : Addr} {xs ys : List V} {H : Hp} {Q : VK} (ha : H a = some (.tup xs)) (hb : H b = some (.tup ys)) (hz : xs.length + ys.length ≤ 1000) (q : ∀ p H', Same H H' → H' p = some (.tup (xs ++ ys)) → Q (.ref p) H') :
    rCatA K (.ref a) (.ref b) H Q := by
  refine ⟨a, b, xs, ys, rfl, rfl, SqT.of ha, SqT.of hb, small hz, fun e => q b H (Same.refl H) ?_, fun _ e => q a H (Same.refl H) ?_, fun _ _ p hp => q p _ (same_new hp _) upd_same⟩
  · rw [e, List.nil_append]
    exact hb
  · rw [e, List.append_nil]
    exact ha
theorem noPart {σ : L2.St} {H : Hp} {Q : Option Int → Hp → Prop} (h : Q none H) : tNoPart σ H Q := h
theorem cut_lo (xs : List V) (j : Nat) (h : j ≤ xs.length) : cutV xs none (some (j : Int)) = xs.take j := by
  unfold cutV
  rw [HT.sIx_none, HT.sIx_nat, List.drop_zero, Nat.sub_zero, Nat.min_eq_left h]
theorem cut_hi (xs : List V) (j : Nat) (h : j ≤ xs.length) : cutV xs (some (j : Int)) none = xs.drop j := by
  unfold cutV
  rw [HT.sIx_none, HT.sIx_nat, Nat.min_eq_left h, ← List.length_drop, List.take_length]
section
variable {P : Program} {w : World} {K : PySem.W.Frag} {mg : Str → Option Value} {base : Heap}
abbrev CTaken (P : Program) (w : World) (K : PySem.W.Frag) (mg : Str → Option Value) (base : Heap) : Prop := Can P w K mg base 1 "_law_taken" ["_law_row", "_law_many"] (spTaken K)
/-! ### _law_pick -/
def spPick (K : PySem.W.Frag) : Sp := fun vs H Q _ => ∃ (r sc l : Addr) (ns ms : List Int), vs = [.ref r, .ref l] ∧ RowOk K H r sc ns ∧ H l = some (.lst (ms.map V.int)) ∧ 1 ≤ ms.length ∧ ms.length ≤ 100 ∧
  ∀ v H', v ∈ ms → But r H H' → RowOk K H' r sc ns → Q (.int v) H'
theorem row_ne {H : Hp} {r sc l : Addr} {ns ms : List Int} (h : RowOk K H r sc ns) (g : H l = some (.lst (ms.map V.int))) : l ≠ r := by
  obtain ⟨p, q, e, h1, _⟩ := h.at_
  intro z
  subst z
  rw [g] at h1
  cases ms with
  | nil => cases h1
  | cons a b => cases h1
theorem ok_pick {f : Addr} {fd : FuncData} (F : Fun K "_law_pick" "_law_pick" sPick f fd) (T : Glb mg) (C1 : CTaken P w K mg base) : FnOk P w K mg base CX0 2 f fd ["_law_row", "_law_things"] (spPick K) := by
  refine F.ok scPick (fun vs H Q E h => ?_) (fun cdv A outer s H vs Q E hr h => ?_)
  · obtain ⟨r, sc, l, ns, ms, rfl, _⟩ := h
    rfl
  · obtain ⟨r, sc, l, ns, ms, rfl, R, hl, h1, h2, k⟩ := h
    obtain ⟨f1, fd1, G1, m1, k1, b1⟩ := C1.ex
    refine ⟨_, pss_one (ps_ret (pe_ix (ixL K) (pv 1) (pe_call G1 hr (by rfl) m1 k1 b1 .nil pass0 (pa_cons (pv 0) (pa_cons (pe_callB (cLen K) (by rfl) T.len (by decide +kernel) (pa_cons (pv 1) pa_nil)) pa_nil))) (fun _ _ => rfl))), ?_⟩
    have hlr := row_ne R hl
    have e : (ms.map V.int).length = ms.length := List.length_map _
    refine ⟨_, rfl, _, rfl, _, rfl, l, _, rfl, .inl (SqL.of hl), r, sc, ns, _, rfl, R, by omega, by omega, fun v H' v0 v1 B R' => ?_⟩
    have hv : v.toNat < ms.length := by omega
    refine ⟨l, _, v, _, rfl, rfl, SqL.of (B l _ hl hlr), at_of (j := v.toNat) (by omega) (by rw [List.getElem?_map, List.getElem?_eq_getElem hv]; rfl), ?_⟩
    exact k _ H' (List.getElem_mem hv) B R'
/-! ### _law_some_set -/
abbrev CPick (P : Program) (w : World) (K : PySem.W.Frag) (mg : Str → Option Value) (base : Heap) : Prop := Can P w K mg base 2 "_law_pick" ["_law_row", "_law_things"] (spPick K)
def spSome (K : PySem.W.Frag) : Sp := fun vs H Q _ => ∃ (r sc : Addr) (ns : List Int) (n : Nat), vs = [.ref r, .int n] ∧ RowOk K H r sc ns ∧ n ≤ 5 ∧
  ∀ (t : Addr) (os : List Int) (H' : Hp), os.Pairwise (· < ·) → (∀ k ∈ os, 0 ≤ k ∧ k < n) → But r H H' → RowOk K H' r sc ns → H' t = some (.tup (os.map V.int)) → Q (.ref t) H'
theorem ok_some {f : Addr} {fd : FuncData} (F : Fun K "_law_some_set" "_law_some_set" sSome f fd) (T : Glb mg) (C1 : CTaken P w K mg base) (C2 : CPick P w K mg base) : FnOk P w K mg base CX0 3 f fd ["_law_row", "_law_many"] (spSome K) := by
  refine F.ok scSome (fun vs H Q E h => ?_) (fun cdv A outer s H vs Q E hr h => ?_)
  · obtain ⟨r, sc, ns, n, rfl, _⟩ := h
    rfl
  · obtain ⟨r, sc, ns, n, rfl, R, hn, k⟩ := h
    obtain ⟨f1, fd1, G1, m1, k1, b1⟩ := C1.ex
    obtain ⟨f2, fd2, G2, m2, k2, b2⟩ := C2.ex
    have hr1 : Room 1 _ := hr.mono (by decide)
    refine ⟨_, pss_cons (ps_set (i := 2) scSome.nd rfl (.inr rfl) (pe_call G2 hr (by rfl) m2 k2 b2 .nil pass0 (pa_cons (pv 0) (pa_cons (pe_lst (pa_cons pe_int (pa_cons pe_int (pa_cons pe_int pa_nil)))) pa_nil))))
      (pss_one (ps_ret (pe_callTy (cTup K) (by rfl) T.tuple (by decide +kernel) (pa_cons
        (pe_lc (own := [("_law_k", 3)]) (g := gName 3) (by rfl) scSome.nd (pi_range1 (by rfl) T.range (pa_cons (pv 1) pa_nil)) (blkOk_by (own := [("_law_k", 3)]) (N := ["_law_row", "_law_many", "_law_rare", "_law_k"]) (sc := defScope sSome) (by decide +kernel))
          (fun _ _ _ _ _ => pg_name (i := 3) scSome.nd rfl (Or.inl rfl)) (fun _ _ _ _ _ => pts_one (pt_cmpR op_eq (pe_call G1 hr1 (by rfl) m1 k1 b1 .nil pass0 (pa_cons (pv 0) (pa_cons (pv 2) pa_nil))) pe_int (nomark _)))
          (fun _ _ _ _ _ => pv 3)) pa_nil)))), ?_⟩
    refine ⟨_, rfl, (by show 3 ≤ sizeLine; decide), fun l hl => ?_⟩
    have S1 := same_new hl (.lst [.int 2, .int 2, .int 3])
    refine ⟨r, sc, l, ns, [2, 2, 3], rfl, R.mono S1, upd_same, by decide, by decide, fun v H2 hv B R2 => ?_⟩
    have hv' : 1 ≤ v ∧ v ≤ 100 := by
      simp only [List.mem_cons, List.not_mem_nil, or_false] at hv
      omega
    have B2 : But r H H2 := (sbut S1).trans B
    refine ⟨_, rfl, n, rfl, by omega, by omega, fun D hD => ?_⟩
    obtain ⟨rx, hrx⟩ := R2.lst
    have hDr : D ≠ r := (ne_of_none hrx hD).symm
    refine lc_range (lo := 0) (n := (n : Int).toNat) (fun i H' => But r H2 H' ∧ RowOk K H' r sc ns ∧ ∃ xs : List Int, H' D = some (.lst (xs.map V.int)) ∧ xs.Pairwise (· < ·) ∧ (∀ x ∈ xs, 0 ≤ x ∧ x < (i : Int)) ∧ xs.length ≤ i)
      ⟨sbut (same_new hD _), R2.mono (same_new hD _), [], upd_same, List.Pairwise.nil, (fun x hx => by cases hx), Nat.le_refl _⟩ ?_ ?_
    · rintro i H3 hi ⟨B3, R3, xs, hxs, hp, hx, hlen⟩
      refine ⟨rfl, ?_⟩
      refine ⟨_, rfl, _, rfl, r, sc, ns, v, rfl, R3, hv'.1, hv'.2, fun d H4 d0 d1 B4 R4 => ?_⟩
      have hD4 := B4 D _ hxs hDr
      refine ⟨rfl, _, rfl, ite2 (fun c => ?_) (fun c => ?_)⟩
      · refine ⟨_, rfl, _, hD4, ?_, ?_, ?_, xs ++ [(0 + (i : Nat) : Int)], ?_, ?_, ?_, ?_⟩
        · rw [List.length_map]
          exact small1000 (by omega)
        · intro b o e nb
          have := B4 b o (B3 b o e nb) nb
          rw [upd_ne (ne_of_none e hD)]
          exact this
        · obtain ⟨p, q, e, h1, h2⟩ := R4.at_
          have hz : ∀ o, (upd H4 D o) r = some (.lst [.ref sc, .int p, .int q, .int e]) := fun o => by rw [upd_ne hDr.symm]; exact h1
          refine ⟨⟨p, q, e, hz _, h2⟩, fun HX BX => ?_⟩
          have : But r H2 (upd H4 D (.lst (xs.map V.int ++ [V.int (0 + (i : Nat))]))) := fun b o e nb => by
            rw [upd_ne (ne_of_none e hD)]
            exact B4 b o (B3 b o e nb) nb
          exact R2.sq HX (this.trans BX)
        · rw [upd_same, List.map_append]
          rfl
        · rw [List.pairwise_append]
          refine ⟨hp, List.pairwise_singleton _ _, fun a ha b hb => ?_⟩
          rw [List.mem_singleton.mp hb]
          have := hx a ha
          omega
        · intro x hm
          rcases List.mem_append.mp hm with z | z
          · have := hx x z
            omega
          · rw [List.mem_singleton.mp z]
            omega
        · rw [List.length_append, List.length_singleton]
          omega
      · exact ⟨B3.trans B4, R4, xs, hD4, hp, (fun x hm => by have := hx x hm; omega), by omega⟩
    · rintro H3 ⟨B3, R3, xs, hxs, hp, hx, hlen⟩
      refine ⟨D, _, rfl, .inl ⟨SqL.of hxs, fun t ht => ?_⟩⟩
      have S4 := same_new ht (.tup (xs.map V.int))
      exact k t xs _ hp (fun x hm => by have := hx x hm; omega) (B2.trans (B3.trans (sbut S4))) (R3.mono S4) upd_same
/-! ### _law_order -/
def spOrder (K : PySem.W.Frag) : Sp := fun vs H Q _ => ∃ (r sc : Addr) (ns : List Int) (n : Nat), vs = [.ref r, .int n] ∧ RowOk K H r sc ns ∧ n ≤ 5 ∧
  ∀ (t : Addr) (os : List Int) (H' : Hp), IsOrd n os → But r H H' → RowOk K H' r sc ns → H' t = some (.tup (os.map V.int)) → Q (.ref t) H'
theorem ok_order {f : Addr} {fd : FuncData} (F : Fun K "_law_order" "_law_order" sOrder f fd) (T : Glb mg) (C1 : CTaken P w K mg base) : FnOk P w K mg base CX0 2 f fd ["_law_row", "_law_many"] (spOrder K) := by
  refine F.ok scOrder (fun vs H Q E h => ?_) (fun cdv A outer s H vs Q E hr h => ?_)
  · obtain ⟨r, sc, ns, n, rfl, _⟩ := h
    rfl
  · obtain ⟨r, sc, ns, n, rfl, R, hn, k⟩ := h
    obtain ⟨f1, fd1, G1, m1, k1, b1⟩ := C1.ex
    refine ⟨_, pss_cons (ps_set (i := 2) scOrder.nd rfl (.inl rfl) (pe_tup pa_nil))
      (pss_cons (ps_for PassesOwn.never rfl (pi_range1 (by rfl) T.range (pa_cons (pv 1) pa_nil)) (pg_name (i := 3) scOrder.nd rfl (Or.inl rfl))
        (pss_cons (ps_set (i := 4) scOrder.nd rfl (.inl rfl) (pe_call G1 hr (by rfl) m1 k1 b1 .nil pass0 (pa_cons (pv 0) (pa_cons (pe_op op_add (pe_callB (cLen K) (by rfl) T.len (by decide +kernel) (pa_cons (pv 2) pa_nil)) pe_int) pa_nil))))
        (pss_one (ps_set (i := 2) scOrder.nd rfl (.inl rfl) (pe_op (oCatT K) (pe_op (oCatT K) (pe_slice (slA K) (pv 2) po_none (po_some (pv 4))) (pe_tup (pa_cons (pv 3) pa_nil))) (pe_slice (slA K) (pv 2) (po_some (pv 4)) po_none))))))
      (pss_one (ps_ret (pv 2)))), ?_⟩
    refine ⟨Nat.zero_le _, fun z hz => ?_⟩
    have S1 : Same H (upd H z (.tup [])) := same_new hz _
    refine ⟨_, rfl, n, rfl, by omega, by omega, for_range (lo := 0) (n := (n : Int).toNat) (fun i σ H' => ∃ (t : Addr) (os : List Int) (x y : Option V), σ = [some (.ref r), some (.int n), some (.ref t), x, y] ∧ But r H H' ∧ RowOk K H' r sc ns ∧ H' t = some (.tup (os.map V.int)) ∧ IsOrd i os)
      ⟨z, [], none, none, rfl, (sbut S1), R.mono S1, upd_same, ⟨rfl, List.nodup_nil, fun x hx => by cases hx⟩⟩ ?_ ?_⟩
    · rintro i σ H1 hi ⟨t, os, x, y, rfl, B1, R1, ht, ho⟩
      have e : (os.map V.int).length = i := by rw [List.length_map, ho.len]
      refine ⟨_, rfl, _, rfl, t, _, rfl, .inr (SqT.of ht), _, _, rfl, rfl, r, sc, ns, _, rfl, R1, by omega, by omega, fun v H2 v0 v1 B2 R2 => ?_⟩
      have htr : t ≠ r := by
        obtain ⟨rx, hrx⟩ := R1.lst
        exact ne_of ht hrx (by intro q; cases q)
      have ht2 := B2 t _ ht htr
      obtain ⟨j, rfl⟩ : ∃ j : Nat, v = j := ⟨v.toNat, by omega⟩
      have hj : j ≤ (os.map V.int).length := by omega
      refine ⟨_, rfl, _, rfl, _, rfl, slA_use ht2 fun p3 H3 S3 h3 => ?_⟩
      rw [cut_lo _ j hj] at h3
      refine ⟨_, rfl, (by show 1 ≤ sizeLine; decide), fun p4 n4 => ?_⟩
      have S4 := same_new n4 (.tup [V.int (0 + (i : Nat))])
      refine catA_use (S4 _ _ h3) upd_same ?_ fun p5 H5 S5 h5 => ?_
      · rw [List.length_take, List.length_singleton]
        omega
      have ht5 := S5 _ _ (S4 _ _ (S3 _ _ ht2))
      refine ⟨_, rfl, _, rfl, _, rfl, ?_⟩
      refine noPart ?_
      refine slA_use ht5 fun p6 H6 S6 h6 => ?_
      rw [cut_hi _ j hj] at h6
      refine catA_use (S6 _ _ h5) h6 ?_ fun p7 H7 S7 h7 => ?_
      · rw [List.length_append, List.length_take, List.length_singleton, List.length_drop]
        omega
      have S27 : Same H2 H7 := S3.trans (S4.trans (S5.trans (S6.trans S7)))
      refine ⟨p7, os.take j ++ (i : Int) :: os.drop j, _, _, rfl, B1.trans (B2.trans (sbut S27)), R2.mono S27, ?_, ins_order ho j⟩
      rw [h7, List.map_append, List.map_cons, List.map_take, List.map_drop, List.append_assoc, Int.zero_add]
      rfl
    · rintro σ H1 ⟨t, os, x, y, rfl, B1, R1, ht, ho⟩
      exact ⟨_, rfl, k t os H1 ho B1 R1 ht⟩
end
end K8

namespace K8
open PySem L2
theorem inV_int (k : Int) (s : List Int) : inV (.int k) (s.map V.int) = s.contains k := by
  unfold inV
  rw [List.any_map, List.contains_eq_any_beq]
  congr 1
  funext a
  show (a == k) = (k == a)
  rw [Bool.eq_iff_iff, beq_iff_eq, beq_iff_eq]
  exact ⟨fun h => h.symm, fun h => h.symm⟩
theorem flat_ints (s : List Int) : (s.map V.int).all flatV = true := by
  rw [List.all_map, List.all_eq_true]
  intro x _
  rfl
/-- the longer ones by the first j parts -/
def moreJ (n : Nat) (s : List Int) (j : Nat) : List (List Int) := (((rng n).take j).filter fun k => !s.contains k).map fun k => s ++ [k]
theorem moreJ_all (n : Nat) (s : List Int) : moreJ n s n = more n s := by
  unfold moreJ more
  rw [take_all (Nat.le_of_eq (rng_length n))]
theorem rng_at {n j : Nat} (h : j < n) : (rng n)[j]? = some (j : Int) := by
  unfold rng
  rw [List.getElem?_map, List.getElem?_range h]
  rfl
theorem moreJ_in {n j : Nat} {s : List Int} (h : j < n) (c : s.contains (j : Int) = false) : moreJ n s (j + 1) = moreJ n s j ++ [s ++ [(j : Int)]] := by
  unfold moreJ
  rw [List.take_succ, rng_at h, List.filter_append, List.map_append]
  have : List.filter (fun k => !s.contains k) [(j : Int)] = [(j : Int)] := by rw [List.filter_cons, c]; rfl
  show _ ++ (List.filter (fun k => !s.contains k) [(j : Int)]).map _ = _
  rw [this]
  rfl
theorem moreJ_out {n j : Nat} {s : List Int} (h : j < n) (c : s.contains (j : Int) = true) : moreJ n s (j + 1) = moreJ n s j := by
  unfold moreJ
  rw [List.take_succ, rng_at h, List.filter_append, List.map_append]
  have : List.filter (fun k => !s.contains k) [(j : Int)] = [] := by rw [List.filter_cons, c]; rfl
  show _ ++ (List.filter (fun k => !s.contains k) [(j : Int)]).map _ = _
  rw [this, List.map_nil, List.append_nil]
theorem moreJ_len (n : Nat) (s : List Int) (j : Nat) : (moreJ n s j).length ≤ j := by
  unfold moreJ
  rw [List.length_map]
  refine Nat.le_trans (List.length_filter_le _ _) ?_
  rw [List.length_take]
  omega
theorem more_len (n : Nat) (s : List Int) : (more n s).length ≤ n := by rw [← moreJ_all]; exact moreJ_len n s n
theorem flat_len (n : Nat) : ∀ l : List (List Int), (l.flatMap (more n)).length ≤ n * l.length
  | [] => by simp
  | s :: l => by
    have h1 := flat_len n l
    have h2 := more_len n s
    rw [List.flatMap_cons, List.length_append, List.length_cons, Nat.mul_succ]
    omega
theorem ords_len {n : Nat} (hn : n ≤ 5) : ∀ j, (ords n j).length ≤ 5 ^ j
  | 0 => Nat.le_refl 1
  | j + 1 => by
    have h1 := ords_len hn j
    have h2 := flat_len n (ords n j)
    have h3 : n * (ords n j).length ≤ 5 * 5 ^ j := Nat.mul_le_mul hn h1
    rw [Nat.pow_succ, Nat.mul_comm (5 ^ j) 5]
    exact Nat.le_trans h2 h3
theorem ords_small {n j : Nat} (hn : n ≤ 5) (hj : j ≤ 5) : (ords n j).length ≤ 3125 := Nat.le_trans (ords_len hn j) (Nat.pow_le_pow_right (by decide) hj)
theorem sline {n : Nat} (h : n ≤ 100000) : n < sizeLine := by rw [PySem.sizeLine_eq]; omega
theorem flat_take {l : List (List Int)} {i n : Nat} {s : List Int} (h : l[i]? = some s) : (l.take (i + 1)).flatMap (more n) = (l.take i).flatMap (more n) ++ more n s := by
  rw [List.take_succ, h, List.flatMap_append]
  simp

/-! ### a comprehension of two clauses, a list and a range -/
theorem lc2_list {K : PySem.W.Frag} {a : Addr} {xs : List V} {g : TG} {tt : TT} {wi1 : TI} {g1 : TG} {tt1 : TT} {te : TE} {vs vs1 : List Nat} {σ : L2.St} {H1 : Hp} {D : Addr} {Qd : Hp → Prop} (Pv : Nat → Hp → Prop) (h0 : Pv 0 (upd H1 D (.lst [])))
    (hl : ∀ i H, i ≤ xs.length → Pv i H → SqL K H a xs)
    (hs : ∀ i x H, xs[i]? = some x → Pv i H → g x (wipe σ vs) H fun σ2 H2 => wipe σ2 vs = wipe σ vs ∧ tt σ2 H2 fun b H3 => if b = true then wi1 σ2 H3 fun J1 H4 => ∃ W1 : Nat → Nat → Hp → Prop, (∃ m, W1 0 m H4) ∧ ∀ j k H, W1 j k H → (J1.stop j H ∧ Pv (i + 1) H) ∨
      (J1.go j H ∧ ∃ Nx1 : Hp → Prop, (∀ H', Nx1 H' → ∃ k', k' < k ∧ W1 (j + 1) k' H') ∧ ∀ x H', J1.yld j H x H' → g1 x (wipe σ2 vs1) H' fun σ3 H5 => wipe σ3 vs1 = wipe σ2 vs1 ∧ tt1 σ3 H5 fun b H6 => if b = true then te σ3 H6 fun y H7 => ∃ acc, H7 D = some (.lst acc) ∧ acc.length < sizeLine ∧ Nx1 (upd H7 D (.lst (acc ++ [y]))) else Nx1 H6) else Pv (i + 1) H3)
    (hd : ∀ H, Pv xs.length H → Qd H) :
    ∃ W : Nat → Nat → Hp → Prop, (∃ m, W 0 m (upd H1 D (.lst []))) ∧ ∀ i m H, W i m H →
      ((Itl K a).stop i H ∧ Qd H) ∨ ((Itl K a).go i H ∧ ∃ Nx : Hp → Prop, (∀ H', Nx H' → ∃ m', m' < m ∧ W (i + 1) m' H') ∧ ∀ x H', (Itl K a).yld i H x H' → g x (wipe σ vs) H' fun σ2 H2 => wipe σ2 vs = wipe σ vs ∧ tt σ2 H2 fun b H3 =>
        if b = true then wi1 σ2 H3 fun J1 H4 => ∃ W1 : Nat → Nat → Hp → Prop, (∃ m, W1 0 m H4) ∧ ∀ j k H, W1 j k H → (J1.stop j H ∧ Nx H) ∨
          (J1.go j H ∧ ∃ Nx1 : Hp → Prop, (∀ H', Nx1 H' → ∃ k', k' < k ∧ W1 (j + 1) k' H') ∧ ∀ x H', J1.yld j H x H' → g1 x (wipe σ2 vs1) H' fun σ3 H5 => wipe σ3 vs1 = wipe σ2 vs1 ∧ tt1 σ3 H5 fun b H6 => if b = true then te σ3 H6 fun y H7 => ∃ acc, H7 D = some (.lst acc) ∧ acc.length < sizeLine ∧ Nx1 (upd H7 D (.lst (acc ++ [y]))) else Nx1 H6) else Nx H3) := by
  refine ⟨fun i m H => m + i = xs.length ∧ Pv i H, ⟨xs.length, rfl, h0⟩, ?_⟩
  rintro i m H ⟨em, p⟩
  have sq := hl i H (by omega) p
  by_cases hi : i < xs.length
  · refine .inr ⟨⟨xs, xs[i], sq, List.getElem?_eq_getElem hi⟩, Pv (i + 1), fun H' p' => ⟨m - 1, by omega, by omega, p'⟩, fun x H' hy => ?_⟩
    obtain ⟨rfl, hx⟩ := hy
    exact hs i x _ (hx xs sq) p
  · have ei : i = xs.length := by omega
    subst ei
    exact .inl ⟨⟨xs, sq, Nat.le_refl _⟩, hd H p⟩
theorem in_range {n : Nat} {lo : Int} {Nx : Hp → Prop} {H4 : Hp} {G : V → Hp → (Hp → Prop) → Prop} (Pw : Nat → Hp → Prop) (h0 : Pw 0 H4) (hs : ∀ j H, j < n → Pw j H → G (.int (lo + j)) H (Pw (j + 1))) (hd : ∀ H, Pw n H → Nx H) :
    ∃ W1 : Nat → Nat → Hp → Prop, (∃ m, W1 0 m H4) ∧ ∀ j k H, W1 j k H → ((Itr lo n).stop j H ∧ Nx H) ∨ ((Itr lo n).go j H ∧ ∃ Nx1 : Hp → Prop, (∀ H', Nx1 H' → ∃ k', k' < k ∧ W1 (j + 1) k' H') ∧ ∀ x H', (Itr lo n).yld j H x H' → G x H' Nx1) := by
  refine ⟨fun j k H => k + j = n ∧ Pw j H, ⟨n, rfl, h0⟩, ?_⟩
  rintro j k H ⟨ek, p⟩
  by_cases hj : j < n
  · refine .inr ⟨hj, Pw (j + 1), fun H' p' => ⟨k - 1, by omega, by omega, p'⟩, fun x H' hy => ?_⟩
    obtain ⟨rfl, rfl⟩ := hy
    exact hs j _ hj p
  · have ej : j = n := by omega
    subst ej
    exact .inl ⟨Nat.le_refl _, hd H p⟩
section
variable {P : Program} {w : World} {K : PySem.W.Frag} {mg : Str → Option Value} {base : Heap}
/-! ### orders_of and _law_orders -/
def spOrds : Sp := fun vs H Q _ => ∃ n : Nat, vs = [.int n] ∧ n ≤ 5 ∧ ∀ (r : Addr) (ks : List (Addr × List Int)) (H' : Hp), Same H H' → H' r = some (.lst (refs ks)) → Tups H' ks → kys ks = ords n n → Q (.ref r) H'
theorem ok_orders {f : Addr} {fd : FuncData} (F : Fun K "orders_of" "orders_of" sOrders f fd) (T : Glb mg) : FnOk P w K mg base CX0 1 f fd ["many"] spOrds := by
  refine F.ok scOrders (fun vs H Q E h => ?_) (fun cdv A outer s H vs Q E hr h => ?_)
  · obtain ⟨n, rfl, _⟩ := h
    rfl
  · obtain ⟨n, rfl, hn, q⟩ := h
    refine ⟨_, pss_cons (ps_set (i := 1) scOrders.nd rfl (.inl rfl) (pe_lst (pa_cons (pe_tup pa_nil) pa_nil)))
      (pss_cons (ps_for PassesOwn.never rfl (pi_range1 (by rfl) T.range (pa_cons (pv 0) pa_nil)) (pg_name (i := 2) scOrders.nd rfl (Or.inl rfl))
        (pss_one (ps_setLc2 (i := 1) (own := [("some", 3), ("k", 4)]) (vs1 := [4]) (g := gName 3) (g1 := gName 4) (by rfl) scOrders.nd rfl rfl (sw_true rfl rfl rfl (by decide +kernel)) (piL K (pv 1))
          (blkOk_by (own := [("some", 3), ("k", 4)]) (N := ["many", "found", "turn", "some", "k"]) (sc := defScope sOrders) (by decide +kernel)) (by decide)
          (fun _ _ _ _ _ => pg_name (i := 3) scOrders.nd rfl (Or.inl rfl)) (fun _ _ _ _ _ => pts_nil) (fun _ _ _ _ _ => pi_range1 (by rfl) T.range (pa_cons (pv 0) pa_nil))
          (fun _ _ _ _ _ => pg_name (i := 4) scOrders.nd rfl (Or.inl rfl)) (fun _ _ _ _ _ => pts_one (pt_cmpR (oNotIn K) (pv 4) (pv 3) (by rfl)))
          (fun _ _ _ _ _ => pe_op (oCatT K) (pv 3) (pe_tup (pa_cons (pv 4) pa_nil))))))
      (pss_one (ps_ret (pv 1)))), ?_⟩
    refine ⟨Nat.zero_le _, fun z hz => ⟨(by show 1 ≤ sizeLine; decide), fun l hl => ?_⟩⟩
    have S1 : Same H (upd H z (.tup [])) := same_new hz _
    have S2 : Same (upd H z (.tup [])) (upd (upd H z (.tup [])) l (.lst [.ref z])) := same_new hl _
    refine ⟨_, rfl, n, rfl, by omega, by omega, for_range (lo := 0) (n := (n : Int).toNat) (fun i σ H' => ∃ (t : Addr) (ks : List (Addr × List Int)) (x y u : Option V), σ = [some (.int n), some (.ref t), x, y, u] ∧ Same H H' ∧ H' t = some (.lst (refs ks)) ∧ Tups H' ks ∧ kys ks = ords n i)
      ⟨l, [(z, [])], none, none, none, rfl, S1.trans S2, upd_same, ?_, rfl⟩ ?_ ?_⟩
    · intro p hp
      rw [List.mem_singleton.mp hp]
      exact S2 _ _ upd_same
    · rintro i σ H1 hi ⟨t, ks, x, y, u, rfl, S, ht, hT, ek⟩
      have hks : ks.length ≤ 3125 := by
        rw [← kys_len, ek]
        exact ords_small hn (by omega)
      refine ⟨_, rfl, t, rfl, ⟨_, SqL.of ht⟩, fun D hD => ?_⟩
      refine lc2_list (K := K) (a := t) (xs := refs ks) (fun i' H' => Same H1 H' ∧ ∃ ks', H' D = some (.lst (refs ks')) ∧ Tups H' ks' ∧ kys ks' = ((kys ks).take i').flatMap (more n))
        ⟨same_new hD _, [], upd_same, (fun p hp => by cases hp), rfl⟩ (fun i' H' _ hp => SqL.of (hp.1 _ _ ht)) ?_ ?_
      · rintro i' x H2 hx ⟨S12, ks', hD2, hT2, e2⟩
        obtain ⟨p, hp, rfl⟩ := at_map hx
        have hpi := lt_of_at hp
        have hpT : H2 p.1 = some (.tup (p.2.map V.int)) := S12 _ _ (hT p (List.mem_of_getElem? hp))
        have hky : (kys ks)[i']? = some p.2 := by rw [List.getElem?_map, hp]; rfl
        have hmem : p.2 ∈ ords n i := by rw [← ek]; exact List.mem_of_getElem? hky
        have hpl : p.2.length ≤ 5 := by rw [(mem_ords.mp hmem).1]; omega
        refine ⟨rfl, yesT ?_⟩
        refine ⟨_, rfl, n, rfl, by omega, by omega, ?_⟩
        have hf : ((kys ks).take i').length ≤ 3125 := by
          rw [List.length_take, kys_len]
          omega
        refine in_range (lo := 0) (n := (n : Int).toNat) (fun j H' => Same H1 H' ∧ ∃ ks', H' D = some (.lst (refs ks')) ∧ Tups H' ks' ∧ kys ks' = ((kys ks).take i').flatMap (more n) ++ moreJ n p.2 j) ⟨S12, ks', hD2, hT2, by rw [e2]; simp [moreJ]⟩ ?_ ?_
        · rintro j H3 hj ⟨S3, ks3, hD3, hT3, e3⟩
          have hjn : j < n := by omega
          have hp3 : H3 p.1 = some (.tup (p.2.map V.int)) := S3 _ _ (hT p (List.mem_of_getElem? hp))
          refine ⟨rfl, ?_⟩
          refine ⟨_, rfl, _, rfl, p.1, _, rfl, .inr (SqT.of hp3), rfl, flat_ints _, _, rfl, ?_⟩
          have ez : ((0 : Int) + (j : Nat)) = (j : Int) := Int.zero_add _
          rw [if_pos rfl, inV_int, ez]
          cases c : p.2.contains (j : Int) with
          | true =>
            show if (false : Bool) = true then _ else _
            rw [if_neg Bool.false_ne_true]
            exact ⟨S3, ks3, hD3, hT3, by rw [e3, moreJ_out hjn c]⟩
          | false =>
            refine iteT ?_
            refine ⟨_, rfl, _, rfl, (by show 1 ≤ sizeLine; decide), fun t1 n1 => ?_⟩
            have S4 : Same H3 (upd H3 t1 (.tup [.int ((j : Nat) : Int)])) := same_new n1 _
            refine catA_use (S4 _ _ hp3) upd_same (by rw [List.length_map, List.length_singleton]; omega) fun t2 H5 S5 h5 => ?_
            have S35 : Same H3 H5 := S4.trans S5
            have hD5 := S35 _ _ hD3
            have e4 : kys (ks3 ++ [(t2, p.2 ++ [(j : Int)])]) = ((kys ks).take i').flatMap (more n) ++ moreJ n p.2 (j + 1) := by
              rw [kys_app, e3, moreJ_in hjn c, List.append_assoc]
            refine ⟨_, hD5, ?_, ?_, ks3 ++ [(t2, p.2 ++ [(j : Int)])], ?_, ?_, e4⟩
            · rw [refs_len, ← kys_len, e3, List.length_append]
              have h1 := flat_len n ((kys ks).take i')
              have h2 := moreJ_len n p.2 j
              have h3 : n * ((kys ks).take i').length ≤ 5 * 3125 := Nat.mul_le_mul hn hf
              exact sline (by omega)
            · intro b o e
              rw [upd_ne (ne_of_none e hD)]
              exact S35 _ _ (S3 b o e)
            · rw [upd_same, refs_app]
            · have ne5 : ∀ (b : Addr) (zs : List V), H5 b = some (.tup zs) → (upd H5 D (.lst (refs ks3 ++ [V.ref t2]))) b = some (.tup zs) := fun b zs hb => by
                rw [upd_ne (ne_of hb hD5 (by intro z; cases z))]
                exact hb
              intro r hr2
              rcases List.mem_append.mp hr2 with h | h
              · exact ne5 _ _ (S35 _ _ (hT3 r h))
              · rw [List.mem_singleton.mp h]
                refine ne5 _ _ ?_
                rw [h5, List.map_append]
                rfl
        · rintro H3 ⟨S3, ks3, hD3, hT3, e3⟩
          exact ⟨S3, ks3, hD3, hT3, by rw [e3, flat_take hky, show (n : Int).toNat = n by omega, moreJ_all]⟩
      · rintro H2 ⟨S12, ks', hD2, hT2, e2⟩
        rw [take_all (by rw [kys_len, refs_len]; exact Nat.le_refl _)] at e2
        exact ⟨D, ks', _, _, _, rfl, S.trans S12, hD2, hT2, by rw [e2, ek]; rfl⟩
    · rintro σ H1 ⟨t, ks, x, y, u, rfl, S, ht, hT, ek⟩
      exact ⟨_, rfl, q t ks H1 S ht hT (by rw [ek]; rfl)⟩
end
end K8

namespace K8
open PySem L2
section
variable {P : Program} {w : World} {K : PySem.W.Frag} {mg : Str → Option Value} {base : Heap}
theorem ok_lords {f : Addr} {fd : FuncData} (F : Fun K "_law_orders" "_law_orders" sLOrds f fd) (T : Glb mg) : FnOk P w K mg base CX0 1 f fd ["_law_many"] spOrds := by
  refine F.ok scLOrds (fun vs H Q E h => ?_) (fun cdv A outer s H vs Q E hr h => ?_)
  · obtain ⟨n, rfl, _⟩ := h
    rfl
  · obtain ⟨n, rfl, hn, q⟩ := h
    refine ⟨_, pss_cons (ps_set (i := 1) scLOrds.nd rfl (.inl rfl) (pe_lst (pa_cons (pe_tup pa_nil) pa_nil)))
      (pss_cons (ps_for PassesOwn.never rfl (pi_range1 (by rfl) T.range (pa_cons (pv 0) pa_nil)) (pg_name (i := 2) scLOrds.nd rfl (Or.inl rfl))
        (pss_cons (ps_set (i := 3) scLOrds.nd rfl (.inl rfl) (pe_lst pa_nil))
        (pss_cons (ps_for PassesOwn.never rfl (piL K (pv 1)) (pg_name (i := 4) scLOrds.nd rfl (Or.inr rfl))
          (pss_one (ps_set (i := 3) scLOrds.nd rfl (.inl rfl) (pe_op op_cat (pv 3)
            (pe_lc (own := [("_law_k", 5)]) (g := gName 5) (by rfl) scLOrds.nd (pi_range1 (by rfl) T.range (pa_cons (pv 0) pa_nil)) (blkOk_by (own := [("_law_k", 5)]) (N := ["_law_many", "_law_found", "_law_turn", "_law_longer", "_law_some", "_law_k"]) (sc := defScope sLOrds) (by decide +kernel))
              (fun _ _ _ _ _ => pg_name (i := 5) scLOrds.nd rfl (Or.inl rfl)) (fun _ _ _ _ _ => pts_one (pt_cmpR (oNotIn K) (pv 5) (pv 4) (by rfl)))
              (fun _ _ _ _ _ => pe_op (oCatT K) (pv 4) (pe_tup (pa_cons (pv 5) pa_nil))))))))
        (pss_one (ps_set (i := 1) scLOrds.nd rfl (.inl rfl) (pv 3))))))
      (pss_one (ps_ret (pv 1)))), ?_⟩
    refine ⟨Nat.zero_le _, fun z hz => ⟨(by show 1 ≤ sizeLine; decide), fun l hl => ?_⟩⟩
    have S1 : Same H (upd H z (.tup [])) := same_new hz _
    have S2 : Same (upd H z (.tup [])) (upd (upd H z (.tup [])) l (.lst [.ref z])) := same_new hl _
    refine ⟨_, rfl, n, rfl, by omega, by omega, for_range (lo := 0) (n := (n : Int).toNat) (fun i σ H' => ∃ (t : Addr) (ks : List (Addr × List Int)) (x y u v : Option V), σ = [some (.int n), some (.ref t), x, y, u, v] ∧ Same H H' ∧ H' t = some (.lst (refs ks)) ∧ Tups H' ks ∧ kys ks = ords n i)
      ⟨l, [(z, [])], none, none, none, none, rfl, S1.trans S2, upd_same, ?_, rfl⟩ ?_ ?_⟩
    · intro p hp
      rw [List.mem_singleton.mp hp]
      exact S2 _ _ upd_same
    · rintro i σ H1 hi ⟨t, ks, x, y, u, v, rfl, S, ht, hT, ek⟩
      have hks : ks.length ≤ 3125 := by
        rw [← kys_len, ek]
        exact ords_small hn (by omega)
      refine ⟨Nat.zero_le _, fun g hg => ?_⟩
      have S3 : Same H1 (upd H1 g (.lst [])) := same_new hg _
      refine ⟨_, rfl, t, rfl, ⟨_, SqL.of (S3 _ _ ht)⟩, for_list (K := K) (a := t) (xs := refs ks) (fun i' σ H' => ∃ (l2 : Addr) (ks' : List (Addr × List Int)) (x u v : Option V), σ = [some (.int n), some (.ref t), x, some (.ref l2), u, v] ∧ Same H1 H' ∧ H' l2 = some (.lst (refs ks')) ∧ Tups H' ks' ∧ kys ks' = ((kys ks).take i').flatMap (more n))
        ⟨g, [], _, _, _, rfl, S3, upd_same, (fun p hp => by cases hp), rfl⟩ (fun i' σ' H' _ hp => ?_) ?_ ?_⟩
      · obtain ⟨_, _, _, _, _, _, S4, _⟩ := hp
        exact SqL.of (S4 _ _ ht)
      · rintro i' x2 σ' H2 hx ⟨l2, ks', x3, u3, v3, rfl, S12, hl2, hT2, e2⟩
        obtain ⟨p, hp, rfl⟩ := at_map hx
        have hpi := lt_of_at hp
        have hpT : H2 p.1 = some (.tup (p.2.map V.int)) := S12 _ _ (hT p (List.mem_of_getElem? hp))
        have hky : (kys ks)[i']? = some p.2 := by rw [List.getElem?_map, hp]; rfl
        have hmem : p.2 ∈ ords n i := by rw [← ek]; exact List.mem_of_getElem? hky
        have hpl : p.2.length ≤ 5 := by rw [(mem_ords.mp hmem).1]; omega
        have hf : ((kys ks).take i').length ≤ 3125 := by
          rw [List.length_take, kys_len]
          omega
        refine ⟨_, rfl, _, rfl, n, rfl, by omega, by omega, fun D hD => ?_⟩
        refine lc_range (lo := 0) (n := (n : Int).toNat) (fun j H' => Same H2 H' ∧ ∃ ks3, H' D = some (.lst (refs ks3)) ∧ Tups H' ks3 ∧ kys ks3 = moreJ n p.2 j) ⟨same_new hD _, [], upd_same, (fun p hp => by cases hp), by simp [moreJ]⟩ ?_ ?_
        · rintro j H3 hj ⟨S3', ks3, hD3, hT3, e3⟩
          have hjn : j < n := by omega
          have hp3 : H3 p.1 = some (.tup (p.2.map V.int)) := S3' _ _ hpT
          refine ⟨rfl, ?_⟩
          refine ⟨_, rfl, _, rfl, p.1, _, rfl, .inr (SqT.of hp3), rfl, flat_ints _, _, rfl, ?_⟩
          have ez : ((0 : Int) + (j : Nat)) = (j : Int) := Int.zero_add _
          rw [if_pos rfl, inV_int, ez]
          cases c : p.2.contains (j : Int) with
          | true =>
            show if (false : Bool) = true then _ else _
            rw [if_neg Bool.false_ne_true]
            exact ⟨S3', ks3, hD3, hT3, by rw [e3, moreJ_out hjn c]⟩
          | false =>
            refine iteT ?_
            refine ⟨_, rfl, _, rfl, (by show 1 ≤ sizeLine; decide), fun t1 n1 => ?_⟩
            have S4 : Same H3 (upd H3 t1 (.tup [.int ((j : Nat) : Int)])) := same_new n1 _
            refine catA_use (S4 _ _ hp3) upd_same (by rw [List.length_map, List.length_singleton]; omega) fun t2 H5 S5 h5 => ?_
            have S35 : Same H3 H5 := S4.trans S5
            have hD5 := S35 _ _ hD3
            have e4 : kys (ks3 ++ [(t2, p.2 ++ [(j : Int)])]) = moreJ n p.2 (j + 1) := by
              rw [kys_app, e3, moreJ_in hjn c]
            refine ⟨_, hD5, ?_, ?_, ks3 ++ [(t2, p.2 ++ [(j : Int)])], ?_, ?_, e4⟩
            · rw [refs_len, ← kys_len, e3]
              have h2 := moreJ_len n p.2 j
              exact sline (by omega)
            · intro b o e
              rw [upd_ne (ne_of_none e hD)]
              exact S35 _ _ (S3' b o e)
            · rw [upd_same, refs_app]
            · have ne5 : ∀ (b : Addr) (zs : List V), H5 b = some (.tup zs) → (upd H5 D (.lst (refs ks3 ++ [V.ref t2]))) b = some (.tup zs) := fun b zs hb => by
                rw [upd_ne (ne_of hb hD5 (by intro z; cases z))]
                exact hb
              intro r hr2
              rcases List.mem_append.mp hr2 with h | h
              · exact ne5 _ _ (S35 _ _ (hT3 r h))
              · rw [List.mem_singleton.mp h]
                refine ne5 _ _ ?_
                rw [h5, List.map_append]
                rfl
        · rintro H3 ⟨S3', ks3, hD3, hT3, e3⟩
          have e3' : kys ks3 = more n p.2 := by rw [e3, show (n : Int).toNat = n by omega, moreJ_all]
          refine ⟨l2, D, _, _, rfl, rfl, S3' _ _ hl2, hD3, ?_, fun m hm => ?_⟩
          · rw [refs_len, refs_len, ← kys_len, ← kys_len, e2, e3']
            have h1 := flat_len n ((kys ks).take i')
            have h2 := more_len n p.2
            have h3 : n * ((kys ks).take i').length ≤ 5 * 3125 := Nat.mul_le_mul hn hf
            exact Nat.le_of_lt (sline (by omega))
          · have S6 : Same H3 (upd H3 m (.lst (refs ks' ++ refs ks3))) := same_new hm _
            refine ⟨m, ks' ++ ks3, _, _, _, rfl, S12.trans (S3'.trans S6), ?_, ?_, ?_⟩
            · rw [upd_same]
              show _ = some (HO.lst (List.map _ (ks' ++ ks3)))
              rw [List.map_append]
            · intro r hr2
              rcases List.mem_append.mp hr2 with h | h
              · exact S6 _ _ (S3' _ _ (hT2 r h))
              · exact S6 _ _ (hT3 r h)
            · show List.map _ (ks' ++ ks3) = _
              rw [List.map_append, flat_take hky, ← e2, ← e3']
      · rintro σ' H2 ⟨l2, ks', x3, u3, v3, rfl, S12, hl2, hT2, e2⟩
        rw [take_all (by rw [kys_len, refs_len]; exact Nat.le_refl _)] at e2
        exact ⟨_, rfl, l2, ks', _, _, _, _, rfl, S.trans S12, hl2, hT2, by rw [e2, ek]; rfl⟩
    · rintro σ H1 ⟨t, ks, x, y, u, v, rfl, S, ht, hT, ek⟩
      exact ⟨_, rfl, q t ks H1 S ht hT (by rw [ek]; rfl)⟩
end
end K8

namespace K8
open PySem L2
/-! ### the masks of sets of at most five parts -/
def subs5 : List (List Int) := [false, true].flatMap fun a => [false, true].flatMap fun b => [false, true].flatMap fun c => [false, true].flatMap fun d => [false, true].map fun e =>
  (if a then [0] else []) ++ ((if b then [1] else []) ++ ((if c then [2] else []) ++ ((if d then [3] else []) ++ (if e then [4] else []))))
theorem subs_mem (a b c d e : Bool) : ((if a then [0] else []) ++ ((if b then [1] else []) ++ ((if c then [2] else []) ++ ((if d then [3] else []) ++ (if e then [4] else [])))) : List Int) ∈ subs5 := by
  have bm : ∀ x : Bool, x ∈ [false, true] := fun x => by cases x <;> decide
  exact List.mem_flatMap.mpr ⟨a, bm a, List.mem_flatMap.mpr ⟨b, bm b, List.mem_flatMap.mpr ⟨c, bm c, List.mem_flatMap.mpr ⟨d, bm d, List.mem_map.mpr ⟨e, bm e, rfl⟩⟩⟩⟩⟩
theorem asc_same {l m : List Int} (hl : l.Pairwise (· < ·)) (hm : m.Pairwise (· < ·)) (h : ∀ k, k ∈ l ↔ k ∈ m) : l = m :=
  perm_unique (le := fun a b => a < b) (fun a b p q => by omega) l m ((List.perm_ext_iff_of_nodup (asc_nodup hl) (asc_nodup hm)).mpr h) hl hm
theorem in_subs {ps : List Int} (h : ps.Pairwise (· < ·)) (hr : ∀ k ∈ ps, 0 ≤ k ∧ k < 5) : ps ∈ subs5 := by
  have e : ps = [0, 1, 2, 3, 4].filter (fun k => decide (k ∈ ps)) := by
    refine asc_same h (List.Pairwise.filter _ (by decide)) fun k => ?_
    rw [List.mem_filter, decide_eq_true_eq]
    refine ⟨fun hk => ⟨?_, hk⟩, fun hk => hk.2⟩
    have := hr k hk
    simp only [List.mem_cons, List.not_mem_nil, or_false]
    omega
  rw [e]
  generalize (fun k => decide (k ∈ ps)) = f
  have : List.filter f [0, 1, 2, 3, 4] = ((if f 0 then [0] else []) ++ ((if f 1 then [1] else []) ++ ((if f 2 then [2] else []) ++ ((if f 3 then [3] else []) ++ (if f 4 then [4] else [])))) : List Int) := by
    simp only [List.filter_cons, List.filter_nil]
    cases f 0 <;> cases f 1 <;> cases f 2 <;> cases f 3 <;> cases f 4 <;> rfl
  rw [this]
  exact subs_mem _ _ _ _ _
theorem mask_sub : ∀ p ∈ subs5, ∀ q ∈ subs5, Builtin.bitAnd (mask p) (mask q) = mask p → ∀ k ∈ p, k ∈ q := by decide +kernel
theorem mask_anti {n : Nat} {pss : List (List Int)} (v : Sets n pss) (hn : n ≤ 5) {ps qs : List Int} (hp : ps ∈ pss) (hq : qs ∈ pss) (hne : mask ps ≠ mask qs) : Builtin.bitAnd (mask ps) (mask qs) ≠ mask ps := by
  intro e
  have rp : ∀ k ∈ ps, 0 ≤ k ∧ k < 5 := fun k hk => by have := v.rg ps hp k hk; omega
  have rq : ∀ k ∈ qs, 0 ≤ k ∧ k < 5 := fun k hk => by have := v.rg qs hq k hk; omega
  have := v.anti ps hp qs hq (mask_sub ps (in_subs (v.asc ps hp) rp) qs (in_subs (v.asc qs hq) rq) e)
  exact hne (by rw [this])
end K8

namespace K8
open PySem L2
def lastE (s : Stmt) : Expr := match (defBody s).getLast? with
  | some (.Return (some e) _) => e
  | _ => .Name "" ⟨0, 0, 0, 0⟩
def cmpL : Expr → Expr
  | .Compare l _ _ _ => l
  | e => e
/-! ### data in the heap -/
theorem dp_ints {K : PySem.W.Frag} {H : Hp} : ∀ ns : List Int, DpAll K H (ns.map V.int) (ns.map PyData.int)
  | [] => .nil
  | n :: ns => .cons (.int n) (dp_ints ns)
theorem dp_T {K : PySem.W.Frag} {H : Hp} {t : Addr} {ns : List Int} (h : H t = some (.tup (ns.map V.int))) : Dp K H (.ref t) (dT ns) := .tup (SqT.of h) (dp_ints ns)
theorem dp_L {K : PySem.W.Frag} {H : Hp} {t : Addr} {ns : List Int} (h : H t = some (.lst (ns.map V.int))) : Dp K H (.ref t) (dL ns) := .lst (SqL.of h) (dp_ints ns)
theorem dp_Ts {K : PySem.W.Frag} {H : Hp} : ∀ ks : List (Addr × List Int), Tups H ks → DpAll K H (refs ks) ((kys ks).map dT)
  | [], _ => .nil
  | p :: ks, h => .cons (dp_T (h p List.mem_cons_self)) (dp_Ts ks fun q hq => h q (List.mem_cons_of_mem _ hq))
theorem dp_LT {K : PySem.W.Frag} {H : Hp} {t : Addr} {ks : List (Addr × List Int)} (h : H t = some (.lst (refs ks))) (ht : Tups H ks) : Dp K H (.ref t) (dLT (kys ks)) := .lst (SqL.of h) (dp_Ts ks ht)
theorem dp_S {K : PySem.W.Frag} {H : Hp} {t : Addr} {s : Sy} (h : SyAt H t s) : Dp K H (.ref t) (dS s) := by
  obtain ⟨u, ks, h1, h2, h3, h4⟩ := h
  refine .tup (SqT.of h1) (.cons (.int _) (.cons (.tup (SqT.of h2) ?_) .nil))
  rw [← h4]
  exact dp_Ts ks h3
theorem dp_nil {K : PySem.W.Frag} {H : Hp} {t : Addr} (h : H t = some (.lst [])) : Dp K H (.ref t) (dL []) := .lst (SqL.of h) .nil
section
variable {P : Program} {w : World} {K : PySem.W.Frag} {mg : Str → Option Value} {base : Heap}
abbrev CIn (P : Program) (w : World) (K : PySem.W.Frag) (mg : Str → Option Value) (base : Heap) : Prop := Can P w K mg base 1 "is_in" ["value", "least", "most"] spIn
abbrev CMask (P : Program) (w : World) (K : PySem.W.Frag) (mg : Str → Option Value) (base : Heap) : Prop := Can P w K mg base 1 "mask_of" ["parts"] spMask
/-! ### are_sets -/
def spSets : Sp := fun vs H Q _ => ∃ (n : Nat) (u : Addr) (ks : List (Addr × List Int)), vs = [.ref u, .int n] ∧ H u = some (.tup (refs ks)) ∧ Tups H ks ∧ Sets n (kys ks) ∧ n ≤ 5 ∧ ks.length ≤ 6 ∧ ∀ H', Same H H' → Q (.bl true) H'
theorem ok_sets {f : Addr} {fd : FuncData} (F : Fun K "are_sets" "are_sets" sSets f fd) (T : Glb mg) (C1 : CIn P w K mg base) (C2 : CMask P w K mg base) : FnOk P w K mg base CX0 2 f fd ["value", "many"] spSets := by
  refine F.ok scSets (fun vs H Q E h => ?_) (fun cdv A outer s H vs Q E hr h => ?_)
  · obtain ⟨n, u, ks, rfl, _⟩ := h
    rfl
  · obtain ⟨n, u, ks, rfl, hu0, hT, hv, hn, h6, q⟩ := h
    obtain ⟨f1, fd1, G1, m1, k1, b1⟩ := C1.ex
    obtain ⟨f2, fd2, G2, m2, k2, b2⟩ := C2.ex
    have hu := room hr
    refine ⟨_, pss_cons (ps_if (pt_not (pt_val (pe_callB (cIsi K) (by rfl) T.isi (by decide +kernel) (pa_cons (pv 0) (pa_cons (pe_bltn (v := .ty "tuple") (by rfl) T.tuple (by decide +kernel) rfl) pa_nil))))) (pss_one (ps_ret pe_bl)) pss_nil)
      (pss_cons (ps_for PassesOwn.never rfl (piT K (pv 0)) (pg_name (i := 2) scSets.nd rfl (Or.inl rfl))
        (pss_cons (ps_if (PW.pt (pw_or (pt_not (pt_val (pe_callB (cIsi K) (by rfl) T.isi (by decide +kernel) (pa_cons (pv 2) (pa_cons (pe_bltn (v := .ty "tuple") (by rfl) T.tuple (by decide +kernel) rfl) pa_nil)))))
          (pw_or1 (pt_cmpR (oNeD K hu) (pe_lc (own := [("k", 4)]) (g := gName 4) (by rfl) scSets.nd (piT K (pv 2)) (blkOk_by (own := [("k", 4)]) (N := ["value", "many", "one", "masks", "k", "a", "b"]) (sc := defScope sSets) (by decide +kernel))
            (fun _ _ _ _ _ => pg_name (i := 4) scSets.nd rfl (Or.inl rfl)) (fun _ _ _ _ _ => pts_one (pt_not (pt_val (pe_call G1 hr (by rfl) m1 k1 b1 .nil pass0 (pa_cons (pv 4) (pa_cons pe_int (pa_cons (pe_op op_sub (pv 1) pe_int) pa_nil))))))) (fun _ _ _ _ _ => pv 4)) (pe_lst pa_nil) (nomark _))))) (pss_one (ps_ret pe_bl)) pss_nil)
        (pss_one (ps_if (pt_cmpR (oNeD K hu) (pe_callTy (cLst K) (by rfl) T.list (by decide +kernel) (pa_cons (pv 2) pa_nil)) (pe_callB (cr_sortedSet rfl) (by rfl) T.sorted (by decide +kernel) (pa_cons (pe_callTy (cr_setIT rfl) (by rfl) T.set (by decide +kernel) (pa_cons (pv 2) pa_nil)) pa_nil)) (nomark _))
          (pss_one (ps_ret pe_bl)) pss_nil))))
      (pss_cons (ps_if (pt_cmpR (oNeD K hu) (pe_callTy (cLst K) (by rfl) T.list (by decide +kernel) (pa_cons (pv 0) pa_nil)) (pe_callB (cr_sortS rfl) (by rfl) T.sorted (by decide +kernel) (pa_cons (pe_callTy (cr_setTT rfl hu) (by rfl) T.set (by decide +kernel) (pa_cons (pv 0) pa_nil)) pa_nil)) (nomark _))
          (pss_one (ps_ret pe_bl)) pss_nil)
      (pss_cons (ps_set (i := 3) scSets.nd rfl (.inr rfl) (pe_lc (own := [("one", 2)]) (g := gName 2) (by rfl) scSets.nd (piT K (pv 0)) (blkOk_by (own := [("one", 2)]) (N := ["value", "many", "one", "masks", "k", "a", "b"]) (sc := defScope sSets) (by decide +kernel))
            (fun _ _ _ _ _ => pg_name (i := 2) scSets.nd rfl (Or.inl rfl)) (fun _ _ _ _ _ => pts_nil) (fun _ _ _ _ _ => pe_call G2 hr (by rfl) m2 k2 b2 .nil pass0 (pa_cons (pv 2) pa_nil))))
      (pss_one (ps_ret (pe_cmpR (oEqD K hu) (pe_lc (own := [("a", 5)]) (g := gName 5) (by rfl) scSets.nd (piL K (pv 3)) (blkOk_by (own := [("a", 5)]) (N := ["value", "many", "one", "masks", "k", "a", "b"]) (sc := defScope sSets) (by decide +kernel))
            (fun _ _ _ _ _ => pg_name (i := 5) scSets.nd rfl (Or.inr rfl))
            (fun _ _ _ _ _ => pts_one (pt_cmpR (oNeD K hu) (pe_lc (own := [("b", 6)]) (g := gName 6) (by rfl) scSets.nd (piL K (pv 3)) (blkOk_by (own := [("b", 6)]) (N := ["value", "many", "one", "masks", "k", "a", "b"]) (sc := rel (lcScope (cmpL (lastE sSets))) (defScope sSets)) (by decide +kernel))
              (fun _ _ _ _ _ => pg_name (i := 6) scSets.nd rfl (Or.inl rfl)) (fun _ _ _ _ _ => pts_one (PW.pt (pw_and (pt_cmpR op_ne (pv 5) (pv 6) (nomark _)) (pw_and1 (pt_cmpR op_eq (pe_op op_and (pv 5) (pv 6)) (pv 5) (nomark _)))))) (fun _ _ _ _ _ => pv 6)) (pe_lst pa_nil) (nomark _)))
            (fun _ _ _ _ _ => pv 5)) (pe_lst pa_nil) (nomark _))))))), ?_⟩
    have asc : ∀ p ∈ ks, p.2.Pairwise (· < ·) := fun p hp => hv.asc p.2 (List.mem_map.mpr ⟨p, hp, rfl⟩)
    have rgs : ∀ p ∈ ks, ∀ k ∈ p.2, 0 ≤ k ∧ k < n := fun p hp => hv.rg p.2 (List.mem_map.mpr ⟨p, hp, rfl⟩)
    have pl : ∀ p ∈ ks, p.2.length ≤ 5 := fun p hp => Nat.le_trans (asc_len (asc p hp) (rgs p hp)) hn
    -- if not isinstance(value, tuple)
    refine ⟨_, rfl, _, _, _, _, true, rfl, .ty _, .base (.tup hu0), kit_ty (by decide +kernel), _, rfl, iteF ?_⟩
    -- for one in value
    refine ⟨_, rfl, u, rfl, ⟨_, SqT.of hu0⟩, for_tup (K := K) (a := u) (xs := refs ks) (fun i σ H' => ∃ o : Option V, σ = [some (.ref u), some (.int n), o, none, none, none, none] ∧ Same H H') ⟨none, rfl, Same.refl H⟩ (fun i σ H' _ hp => ?_) ?_ ?_⟩
    · obtain ⟨_, _, S⟩ := hp
      exact SqT.of (S _ _ hu0)
    · rintro i x σ H1 hx ⟨o, rfl, S⟩
      obtain ⟨p, hp, rfl⟩ := at_map hx
      have hpm := List.mem_of_getElem? hp
      have hpT : H1 p.1 = some (.tup (p.2.map V.int)) := S _ _ (hT p hpm)
      have hpl := pl p hpm
      refine ⟨_, rfl, _, _, _, _, true, rfl, .ty _, .base (.tup hpT), kit_ty (by decide +kernel), _, rfl, iteF ?_⟩
      refine ⟨_, rfl, p.1, rfl, ⟨_, SqT.of hpT⟩, fun D hD => ?_⟩
      refine lc_tup (K := K) (a := p.1) (xs := p.2.map V.int) (fun j H' => Same H1 H' ∧ H' D = some (.lst [])) ⟨same_new hD _, upd_same⟩ (fun j H' _ hq => SqT.of (hq.1 _ _ hpT)) ?_ ?_
      · rintro j y H2 hy ⟨S2, hD2⟩
        obtain ⟨k, hk, rfl⟩ := at_map hy
        have hkr := rgs p hpm k (List.mem_of_getElem? hk)
        refine ⟨rfl, ?_⟩
        refine ⟨_, rfl, _, rfl, _, _, rfl, rfl, k, 0, (n : Int) - 1, rfl, _, rfl, ?_⟩
        have ed : decide ((0 : Int) ≤ k ∧ k ≤ (n : Int) - 1) = true := decide_eq_true (by omega)
        rw [ed]
        exact iteF ⟨S2, hD2⟩
      · rintro H2 ⟨S2, hD2⟩
        refine ⟨Nat.zero_le _, fun D3 hD3 => ?_⟩
        have S3 : Same H2 (upd H2 D3 (.lst [])) := same_new hD3 _
        refine ⟨dL [], dL [], dp_nil (S3 _ _ hD2), dp_nil upd_same, shp_L [], shp_L [], _, rfl, ?_⟩
        rw [eqv_L, decide_eq_true rfl]
        refine iteF ?_
        have S13 := S2.trans S3
        have hp3 := S13 _ _ hpT
        -- list(one) != sorted(set(one))
        refine ⟨_, rfl, p.1, _, rfl, .inr (SqT.of hp3), fun l4 n4 => ?_⟩
        have S4 : Same _ (upd (upd H2 D3 (.lst [])) l4 (.lst (p.2.map V.int))) := same_new n4 _
        refine ⟨_, rfl, p.1, p.2, rfl, SqT.of (S4 _ _ hp3), by omega, fun g5 c5 hc5 n5 => ?_⟩
        have S5 := same_new n5 (SetO w g5 (fun j => decide (j ∈ p.2)) c5)
        refine ⟨g5, _, c5, rfl, upd_same, by omega, fun ns6 g6 hs6 hm6 _ n6 => ?_⟩
        have S6 := same_new n6 (.lst (ns6.map V.int))
        have en : ns6 = p.2 := asc_same hs6 (asc p hpm) fun k => by rw [hm6 k, decide_eq_true_eq]
        refine ⟨dL p.2, dL ns6, dp_L (S6 _ _ (S5 _ _ upd_same)), dp_L upd_same, shp_L _, shp_L _, _, rfl, ?_⟩
        rw [eqv_L, decide_eq_true en.symm]
        refine iteF ?_
        exact ⟨_, rfl, S.trans (S13.trans (S4.trans (S5.trans S6)))⟩
    · rintro σ H1 ⟨o, rfl, S⟩
      have hT1 := hT.mono S
      -- list(value) != sorted(set(value))
      refine ⟨_, rfl, u, _, rfl, .inr (SqT.of (S _ _ hu0)), fun l2 n2 => ?_⟩
      have S2 : Same H1 (upd H1 l2 (.lst (refs ks))) := same_new n2 _
      refine ⟨_, rfl, u, ks, rfl, SqT.of (S2 _ _ (S _ _ hu0)), (fun p hp => SqT.of (S2 _ _ (hT1 p hp))), by omega, fun g3 L3 n3 nd3 sub3 all3 => ?_⟩
      have S3 := same_new n3 (SetTO P w g3 L3)
      have ndk : (kys ks).Nodup := nodup_of_strict sto_llt hv.ord
      have mem3 : ∀ x, x ∈ kys L3 ↔ x ∈ kys ks := fun x => ⟨fun hx => by
        obtain ⟨p, hp, e⟩ := List.mem_map.mp hx
        exact List.mem_map.mpr ⟨p, sub3 p hp, e⟩, fun hx => by
        obtain ⟨p, hp, e⟩ := List.mem_map.mp hx
        rw [← e]
        exact all3 p hp⟩
      refine ⟨g3, L3, rfl, upd_same, (fun p hp => SqT.of (S3 _ _ (S2 _ _ (hT1 p (sub3 p hp))))), fun h2 p hp => ?_, fun L4 g4 pm4 nd4 so4 n4 => ?_⟩
      · exact ne_of_two nd3 (fun a ha b hb => hv.anti a ((mem3 a).mp ha) b ((mem3 b).mp hb)) (by rw [kys_len]; exact h2) p.2 (List.mem_map.mpr ⟨p, hp, rfl⟩)
      · have S4 := same_new n4 (.lst (refs L4))
        have hT4 : Tups (upd (upd (upd H1 l2 (.lst (refs ks))) g3 (SetTO P w g3 L3)) g4 (.lst (refs L4))) L4 := fun p hp => S4 _ _ (S3 _ _ (S2 _ _ (hT1 p (sub3 p (pm4.mem_iff.mp hp)))))
        have e4 : kys L4 = kys ks := by
          refine perm_unique (fun a b p q => sto_llt.tot a b q p) _ _ ((List.perm_ext_iff_of_nodup nd4 ndk).mpr fun x => ?_) so4 (weak_of sto_llt hv.ord)
          rw [← mem3 x]
          exact (pm4.map (·.2)).mem_iff
        have S34 := S3.trans S4
        refine ⟨dLT (kys ks), dLT (kys L4), dp_LT (S34 _ _ upd_same) ((hT1.mono S2).mono S34), dp_LT upd_same hT4, shp_LT _, shp_LT _, _, rfl, ?_⟩
        rw [eqv_LT, decide_eq_true e4.symm]
        refine iteF ?_
        have S14 := S.trans (S2.trans S34)
        -- masks
        refine ⟨_, rfl, u, rfl, ⟨_, SqT.of (S14 _ _ hu0)⟩, fun D hD => ?_⟩
        refine lc_tup (K := K) (a := u) (xs := refs ks) (fun i H' => Same H H' ∧ H' D = some (.lst (((ks.take i).map fun p => mask p.2).map V.int))) ⟨S14.trans (same_new hD _), upd_same⟩ (fun j H' _ hq => SqT.of (hq.1 _ _ hu0)) ?_ ?_
        · rintro i x H5 hx ⟨S5, hD5⟩
          obtain ⟨p, hp, rfl⟩ := at_map hx
          have hpm := List.mem_of_getElem? hp
          have hil := lt_of_at hp
          refine ⟨rfl, yesT ?_⟩
          refine ⟨_, rfl, p.1, p.2, rfl, S5 _ _ (hT p hpm), by have := pl p hpm; omega, (fun k hk => by have := rgs p hpm k hk; omega), fun H6 S6 => ?_⟩
          refine ⟨_, S6 _ _ hD5, ?_, ?_, ?_⟩
          · rw [List.length_map, List.length_map, List.length_take]
            exact small1000 (by omega)
          · intro b o e
            rw [upd_ne (ne_of_none (S14 b o e) hD)]
            exact S6 _ _ (S5 b o e)
          · rw [upd_same, map_take (fun p : Addr × List Int => mask p.2) hp, List.map_append]
            rfl
        · rintro H5 ⟨S5, hD5⟩
          rw [take_all (by rw [refs_len]; exact Nat.le_refl _)] at hD5
          have S15 := S5
          generalize hms : (ks.map fun p => mask p.2) = ms at hD5
          have hml : ms.length ≤ 6 := by rw [← hms, List.length_map]; exact h6
          -- [a for a in masks if [b ..] != []] == []
          refine ⟨_, rfl, D, rfl, ⟨_, SqL.of hD5⟩, fun D6 hD6 => ?_⟩
          refine lc_list (K := K) (a := D) (xs := ms.map V.int) (fun i H' => Same H5 H' ∧ H' D6 = some (.lst [])) ⟨same_new hD6 _, upd_same⟩ (fun i H' _ hq => SqL.of (hq.1 _ _ hD5)) ?_ ?_
          · rintro i x H7 hx ⟨S7, hD7⟩
            obtain ⟨a, ha, rfl⟩ := at_map hx
            refine ⟨rfl, ?_⟩
            refine ⟨_, rfl, D, rfl, ⟨_, SqL.of (S7 _ _ hD5)⟩, fun D8 hD8 => ?_⟩
            refine lc_list (K := K) (a := D) (xs := ms.map V.int) (fun i H' => Same H7 H' ∧ H' D8 = some (.lst [])) ⟨same_new hD8 _, upd_same⟩ (fun i H' _ hq => SqL.of (hq.1 _ _ (S7 _ _ hD5))) ?_ ?_
            · rintro j y H9 hy ⟨S9, hD9⟩
              obtain ⟨b, hb, rfl⟩ := at_map hy
              refine ⟨rfl, ?_⟩
              have hab : a ≠ b → Builtin.bitAnd a b ≠ a := fun hne => by
                have h1 := List.mem_of_getElem? ha
                have h2 := List.mem_of_getElem? hb
                rw [← hms] at h1 h2
                obtain ⟨p, hp, rfl⟩ := List.mem_map.mp h1
                obtain ⟨r, hr2, rfl⟩ := List.mem_map.mp h2
                exact mask_anti hv hn (List.mem_map.mpr ⟨p, hp, rfl⟩) (List.mem_map.mpr ⟨r, hr2, rfl⟩) hne
              refine ⟨_, rfl, _, rfl, rfl, _, rfl, ?_⟩
              by_cases c : a = b
              · subst c
                rw [decide_eq_true rfl]
                exact iteF (iteF ⟨S9, hD9⟩)
              · rw [decide_eq_false (fun e => c (V.int.inj e))]
                refine iteT ⟨_, rfl, _, rfl, _, _, rfl, rfl, _, rfl, rfl, _, rfl, ?_⟩
                rw [decide_eq_false (fun e => hab c (V.int.inj e))]
                exact iteF ⟨S9, hD9⟩
            · rintro H9 ⟨S9, hD9⟩
              refine ⟨Nat.zero_le _, fun D10 n10 => ?_⟩
              have S10 : Same H9 (upd H9 D10 (.lst [])) := same_new n10 _
              refine ⟨dL [], dL [], dp_nil (S10 _ _ hD9), dp_nil upd_same, shp_L [], shp_L [], _, rfl, ?_⟩
              rw [eqv_L, decide_eq_true rfl]
              exact iteF ⟨S7.trans (S9.trans S10), S10 _ _ (S9 _ _ hD7)⟩
          · rintro H7 ⟨S7, hD7⟩
            refine ⟨Nat.zero_le _, fun D8 n8 => ?_⟩
            have S8 : Same H7 (upd H7 D8 (.lst [])) := same_new n8 _
            refine ⟨dL [], dL [], dp_nil (S8 _ _ hD7), dp_nil upd_same, shp_L [], shp_L [], ?_⟩
            rw [eqv_L, decide_eq_true rfl]
            exact q _ (S15.trans (S7.trans S8))
end
end K8

namespace K8
open PySem L2
theorem rgV_rng (n : Nat) : rgV 0 (n : Int) = (rng n).map V.int := by
  unfold rgV rng
  rw [List.map_map, show ((n : Int) - 0).toNat = n by omega]
  refine List.map_congr_left fun i _ => ?_
  show V.int (0 + (i : Nat)) = V.int ((i : Nat) : Int)
  rw [Int.zero_add]
theorem asc_rng (n : Nat) {ns : List Int} (p : ns.Perm (rng n)) (s : ns.Pairwise (· ≤ ·)) : ns = rng n := by
  refine perm_unique (le := fun a b => a ≤ b) (fun a b p q => by omega) ns _ p s ?_
  exact (rng_sorted n).imp fun h => by omega
theorem sy_upd {H : Hp} {D t : Addr} {s : Sy} {xs ys : List V} (h : SyAt H t s) (hD : H D = some (.lst xs)) : SyAt (upd H D (.lst ys)) t s := by
  have k : ∀ (b : Addr) (zs : List V), H b = some (.tup zs) → (upd H D (.lst ys)) b = some (.tup zs) := fun b zs hb => by
    rw [upd_ne (ne_of hb hD (by intro z; cases z))]
    exact hb
  obtain ⟨u, ks, h1, h2, h3, h4⟩ := h
  exact ⟨u, ks, k _ _ h1, k _ _ h2, fun p hp => k _ _ (h3 p hp), h4⟩
abbrev refS (ss : List (Addr × Sy)) : List V := ss.map fun p => V.ref p.1
theorem refS_app (ks : List (Addr × Sy)) (p : Addr × Sy) : refS (ks ++ [p]) = refS ks ++ [V.ref p.1] := by simp [refS]
theorem refS_len (ks : List (Addr × Sy)) : (refS ks).length = ks.length := by simp [refS]
section
variable {P : Program} {w : World} {K : PySem.W.Frag} {mg : Str → Option Value} {base : Heap}
abbrev CSets (P : Program) (w : World) (K : PySem.W.Frag) (mg : Str → Option Value) (base : Heap) : Prop := Can P w K mg base 2 "are_sets" ["value", "many"] spSets
/-! ### is_system, need_system -/
def spSys (v : V) : Sp := fun vs H Q _ => ∃ (n : Nat) (t : Addr) (sy : Sy), vs = [.ref t] ∧ SyAt H t sy ∧ Valid n sy ∧ ∀ H', Same H H' → Q v H'
theorem ok_issys {f : Addr} {fd : FuncData} (F : Fun K "is_system" "is_system" sIsSys f fd) (T : Glb mg) (C1 : CIn P w K mg base) (C2 : CSets P w K mg base) : FnOk P w K mg base CX0 3 f fd ["value"] (spSys (.bl true)) := by
  refine F.ok scIsSys (fun vs H Q E h => ?_) (fun cdv A outer s H vs Q E hr h => ?_)
  · obtain ⟨n, t, sy, rfl, _⟩ := h
    rfl
  · obtain ⟨n, t, sy, rfl, ⟨u, ks, ht, hu, hT, ek⟩, hv, q⟩ := h
    obtain ⟨f1, fd1, G1, m1, k1, b1⟩ := C1.ex
    obtain ⟨f2, fd2, G2, m2, k2, b2⟩ := C2.ex
    obtain ⟨tp, hp⟩ := T.parts
    have hr1 : Room 1 _ := hr.mono (by decide)
    refine ⟨_, pss_cons (ps_if (PW.pt (pw_or (pt_not (pt_val (pe_callB (cIsi K) (by rfl) T.isi (by decide +kernel) (pa_cons (pv 0) (pa_cons (pe_bltn (v := .ty "tuple") (by rfl) T.tuple (by decide +kernel) rfl) pa_nil)))))
        (pw_or (pt_cmpR op_ne (pe_callB (cLen K) (by rfl) T.len (by decide +kernel) (pa_cons (pv 0) pa_nil)) pe_int (nomark _))
        (pw_or1 (pt_not (pt_val (pe_call G1 hr1 (by rfl) m1 k1 b1 .nil pass0 (pa_cons (pe_ix (ixT K) (pv 0) pe_int (fun _ _ => rfl)) (pa_cons pe_int (pa_cons (pe_glob (v := .int 8) (by rfl) hp ⟨_, rfl⟩) pa_nil))))))))))
        (pss_one (ps_ret pe_bl)) pss_nil)
      (pss_one (ps_ret (pe_call G2 hr (by rfl) m2 k2 b2 .nil pass0 (pa_cons (pe_ix (ixT K) (pv 0) pe_int (fun _ _ => rfl)) (pa_cons (pe_ix (ixT K) (pv 0) pe_int (fun _ _ => rfl)) pa_nil))))), ?_⟩
    refine ⟨_, rfl, _, _, _, _, true, rfl, .ty _, .base (.tup ht), kit_ty (by decide +kernel), _, rfl, iteF ?_⟩
    refine ⟨_, rfl, t, _, rfl, .inr (SqT.of ht), rfl, _, rfl, iteF ?_⟩
    have em : sy.1 = (n : Int) := hv.many
    have h5 := hv.hi
    have h1 := hv.lo
    refine ⟨_, rfl, t, _, 0, _, rfl, rfl, SqT.of ht, atI_nat (j := 0) rfl, sy.1, 1, 8, rfl, _, rfl, ?_⟩
    have ed : decide ((1 : Int) ≤ sy.1 ∧ sy.1 ≤ 8) = true := decide_eq_true (by omega)
    rw [ed]
    refine iteF ?_
    refine ⟨_, rfl, t, _, 1, _, rfl, rfl, SqT.of ht, atI_nat (j := 1) rfl, _, rfl, t, _, 0, _, rfl, rfl, SqT.of ht, atI_nat (j := 0) rfl, n, u, ks, by rw [em]; rfl, hu, hT, by rw [ek]; exact hv.sets, h5, by rw [← kys_len, ek]; exact hv.few, q⟩
abbrev CIsSys (P : Program) (w : World) (K : PySem.W.Frag) (mg : Str → Option Value) (base : Heap) : Prop := Can P w K mg base 3 "is_system" ["value"] (spSys (.bl true))
theorem ok_needsys {f : Addr} {fd : FuncData} (F : Fun K "need_system" "need_system" sNeedSys f fd) (C1 : CIsSys P w K mg base) : FnOk P w K mg base CX0 4 f fd ["system"] (spSys .non) := by
  refine F.ok scNeedSys (fun vs H Q E h => ?_) (fun cdv A outer s H vs Q E hr h => ?_)
  · obtain ⟨n, t, sy, rfl, _⟩ := h
    rfl
  · obtain ⟨n, t, sy, rfl, hS, hv, q⟩ := h
    obtain ⟨f1, fd1, G1, m1, k1, b1⟩ := C1.ex
    refine ⟨_, pss_one (ps_if (pt_not (pt_val (pe_call G1 hr (by rfl) m1 k1 b1 .nil pass0 (pa_cons (pv 0) pa_nil)))) (pss_one ps_never) pss_nil), ?_⟩
    exact ⟨_, rfl, n, t, sy, rfl, hS, hv, fun H' S => ⟨_, rfl, iteF (q H' S)⟩⟩
abbrev CNeedSys (P : Program) (w : World) (K : PySem.W.Frag) (mg : Str → Option Value) (base : Heap) : Prop := Can P w K mg base 4 "need_system" ["system"] (spSys .non)
/-! ### need_order -/
def spNeedOrd : Sp := fun vs H Q _ => ∃ (n : Nat) (o : Addr) (os : List Int), vs = [.int n, .ref o] ∧ H o = some (.tup (os.map V.int)) ∧ IsOrd n os ∧ n ≤ 5 ∧ ∀ H', Same H H' → Q .non H'
theorem ok_needord {f : Addr} {fd : FuncData} (F : Fun K "need_order" "need_order" sNeedOrd f fd) (T : Glb mg) (C1 : CIn P w K mg base) : FnOk P w K mg base CX0 2 f fd ["many", "order"] spNeedOrd := by
  refine F.ok scNeedOrd (fun vs H Q E h => ?_) (fun cdv A outer s H vs Q E hr h => ?_)
  · obtain ⟨n, o, os, rfl, _⟩ := h
    rfl
  · obtain ⟨n, o, os, rfl, ho, hO, hn, q⟩ := h
    obtain ⟨f1, fd1, G1, m1, k1, b1⟩ := C1.ex
    have hu := room hr
    have hl := hO.len
    refine ⟨_, pss_cons (ps_if (PW.pt (pw_or (pt_not (pt_val (pe_callB (cIsi K) (by rfl) T.isi (by decide +kernel) (pa_cons (pv 1) (pa_cons (pe_bltn (v := .ty "tuple") (by rfl) T.tuple (by decide +kernel) rfl) pa_nil)))))
          (pw_or1 (pt_cmpR (oNeD K hu) (pe_lc (own := [("k", 2)]) (g := gName 2) (by rfl) scNeedOrd.nd (piT K (pv 1)) (blkOk_by (own := [("k", 2)]) (N := ["many", "order", "k"]) (sc := defScope sNeedOrd) (by decide +kernel))
            (fun _ _ _ _ _ => pg_name (i := 2) scNeedOrd.nd rfl (Or.inl rfl)) (fun _ _ _ _ _ => pts_one (pt_not (pt_val (pe_call G1 hr (by rfl) m1 k1 b1 .nil pass0 (pa_cons (pv 2) (pa_cons pe_int (pa_cons (pe_op op_sub (pv 0) pe_int) pa_nil))))))) (fun _ _ _ _ _ => pv 2)) (pe_lst pa_nil) (nomark _))))) (pss_one ps_never) pss_nil)
      (pss_one (ps_if (pt_cmpR (oNeD K hu) (pe_callB (cSrtIT K) (by rfl) T.sorted (by decide +kernel) (pa_cons (pv 1) pa_nil)) (pe_listRg rfl (by rfl) T.list (prg_1 (by rfl) T.range (pv 0))) (nomark _)) (pss_one ps_never) pss_nil)), ?_⟩
    refine ⟨_, rfl, _, _, _, _, true, rfl, .ty _, .base (.tup ho), kit_ty (by decide +kernel), _, rfl, iteF ?_⟩
    refine ⟨_, rfl, o, rfl, ⟨_, SqT.of ho⟩, fun D hD => ?_⟩
    refine lc_tup (K := K) (a := o) (xs := os.map V.int) (fun j H' => Same H H' ∧ H' D = some (.lst [])) ⟨same_new hD _, upd_same⟩ (fun j H' _ hq => SqT.of (hq.1 _ _ ho)) ?_ ?_
    · rintro j y H2 hy ⟨S2, hD2⟩
      obtain ⟨k, hk, rfl⟩ := at_map hy
      have hkr := hO.rg k (List.mem_of_getElem? hk)
      refine ⟨rfl, ?_⟩
      refine ⟨_, rfl, _, rfl, _, _, rfl, rfl, k, 0, (n : Int) - 1, rfl, _, rfl, ?_⟩
      have ed : decide ((0 : Int) ≤ k ∧ k ≤ (n : Int) - 1) = true := decide_eq_true (by omega)
      rw [ed]
      exact iteF ⟨S2, hD2⟩
    · rintro H2 ⟨S2, hD2⟩
      refine ⟨Nat.zero_le _, fun D3 hD3 => ?_⟩
      have S3 : Same H2 (upd H2 D3 (.lst [])) := same_new hD3 _
      refine ⟨dL [], dL [], dp_nil (S3 _ _ hD2), dp_nil upd_same, shp_L [], shp_L [], _, rfl, ?_⟩
      rw [eqv_L, decide_eq_true rfl]
      refine iteF ?_
      have S13 := S2.trans S3
      refine ⟨_, rfl, o, os, rfl, SqT.of (S13 _ _ ho), by omega, fun ns4 g4 pm4 so4 n4 => ?_⟩
      have S4 := same_new n4 (.lst (ns4.map V.int))
      refine ⟨_, rfl, n, rfl, RgOk.of_le (by omega) (by omega) (by omega) (by omega), fun g5 n5 => ?_⟩
      have S5 := same_new n5 (.lst (rgV 0 n))
      have e4 : ns4 = rng n := asc_rng n (pm4.trans hO.perm) so4
      refine ⟨dL ns4, dL (rng n), dp_L (S5 _ _ upd_same), dp_L (by rw [upd_same, rgV_rng]), shp_L _, shp_L _, _, rfl, ?_⟩
      rw [eqv_L, decide_eq_true e4]
      exact iteF (q _ (S13.trans (S4.trans S5)))
abbrev CNeedOrd (P : Program) (w : World) (K : PySem.W.Frag) (mg : Str → Option Value) (base : Heap) : Prop := Can P w K mg base 2 "need_order" ["many", "order"] spNeedOrd
abbrev CTurned (P : Program) (w : World) (K : PySem.W.Frag) (mg : Str → Option Value) (base : Heap) : Prop := Can P w K mg base 1 "turned" ["system", "order"] spTurn
/-! ### renamed -/
theorem ok_renamed {f : Addr} {fd : FuncData} (F : Fun K "renamed" "renamed" sRenamed f fd) (C1 : CNeedSys P w K mg base) (C2 : CNeedOrd P w K mg base) (C3 : CTurned P w K mg base) : FnOk P w K mg base CX0 5 f fd ["system", "order"] spTurn := by
  refine F.ok scRenamed (fun vs H Q E h => ?_) (fun cdv A outer s H vs Q E hr h => ?_)
  · obtain ⟨n, t, o, sy, os, rfl, _⟩ := h
    rfl
  · obtain ⟨n, t, o, sy, os, rfl, hv, ho, hS, hO, q⟩ := h
    obtain ⟨f1, fd1, G1, m1, k1, b1⟩ := C1.ex
    obtain ⟨f2, fd2, G2, m2, k2, b2⟩ := C2.ex
    obtain ⟨f3, fd3, G3, m3, k3, b3⟩ := C3.ex
    have hr2 : Room 2 _ := hr.mono (by decide)
    have hr1 : Room 1 _ := hr.mono (by decide)
    refine ⟨_, pss_cons (ps_expr (pe_call G1 hr (by rfl) m1 k1 b1 .nil pass0 (pa_cons (pv 0) pa_nil)))
      (pss_cons (ps_expr (pe_call G2 hr2 (by rfl) m2 k2 b2 .nil pass0 (pa_cons (pe_ix (ixT K) (pv 0) pe_int (fun _ _ => rfl)) (pa_cons (pv 1) pa_nil))))
      (pss_one (ps_ret (pe_call G3 hr1 (by rfl) m3 k3 b3 .nil pass0 (pa_cons (pv 0) (pa_cons (pv 1) pa_nil)))))), ?_⟩
    refine ⟨_, rfl, n, t, sy, rfl, hS, hv, fun H1 S1 => ?_⟩
    have hS1 := hS.mono S1
    obtain ⟨u, ks, ht, _⟩ := id hS1
    have em : sy.1 = (n : Int) := hv.many
    refine ⟨_, rfl, t, _, 0, _, rfl, rfl, SqT.of ht, atI_nat (j := 0) rfl, _, rfl, n, o, os, by rw [em]; rfl, S1 _ _ ho, hO, hv.hi, fun H2 S2 => ?_⟩
    refine ⟨_, rfl, _, rfl, n, t, o, sy, os, rfl, hv, S2 _ _ (S1 _ _ ho), hS1.mono S2, hO, fun r H3 S3 hr3 => q r H3 (S1.trans (S2.trans S3)) hr3⟩
/-! ### need_small, least_name -/
theorem ok_small {f : Addr} {fd : FuncData} (F : Fun K "need_small" "need_small" sNeedSmall f fd) (T : Glb mg) (C1 : CNeedSys P w K mg base) : FnOk P w K mg base CX0 5 f fd ["system"] (spSys .non) := by
  refine F.ok scNeedSmall (fun vs H Q E h => ?_) (fun cdv A outer s H vs Q E hr h => ?_)
  · obtain ⟨n, t, sy, rfl, _⟩ := h
    rfl
  · obtain ⟨n, t, sy, rfl, hS, hv, q⟩ := h
    obtain ⟨f1, fd1, G1, m1, k1, b1⟩ := C1.ex
    obtain ⟨tn, hn⟩ := T.names
    refine ⟨_, pss_cons (ps_expr (pe_call G1 hr (by rfl) m1 k1 b1 .nil pass0 (pa_cons (pv 0) pa_nil)))
      (pss_one (ps_if (pt_cmpR op_gt (pe_ix (ixT K) (pv 0) pe_int (fun _ _ => rfl)) (pe_glob (v := .int 6) (by rfl) hn ⟨_, rfl⟩) (nomark _)) (pss_one ps_never) pss_nil)), ?_⟩
    refine ⟨_, rfl, n, t, sy, rfl, hS, hv, fun H1 S1 => ?_⟩
    obtain ⟨u, ks, ht, _⟩ := hS.mono S1
    have em : sy.1 = (n : Int) := hv.many
    have h5 := hv.hi
    refine ⟨_, rfl, t, _, 0, _, rfl, rfl, SqT.of ht, atI_nat (j := 0) rfl, _, _, rfl, rfl, _, rfl, ?_⟩
    rw [decide_eq_false (show ¬ (6 : Int) < sy.1 by omega)]
    exact iteF (q H1 S1)
abbrev CSmall (P : Program) (w : World) (K : PySem.W.Frag) (mg : Str → Option Value) (base : Heap) : Prop := Can P w K mg base 5 "need_small" ["system"] (spSys .non)
abbrev COrders (P : Program) (w : World) (K : PySem.W.Frag) (mg : Str → Option Value) (base : Heap) : Prop := Can P w K mg base 1 "orders_of" ["many"] spOrds
def spName : Sp := fun vs H Q _ => ∃ (n : Nat) (t : Addr) (sy : Sy), vs = [.ref t] ∧ SyAt H t sy ∧ Valid n sy ∧ ∀ r H', Same H H' → SyAt H' r (nameOf n sy) → Q (.ref r) H'
theorem ok_least {f : Addr} {fd : FuncData} (F : Fun K "least_name" "least_name" sLeastName f fd) (T : Glb mg) (C1 : CSmall P w K mg base) (C2 : COrders P w K mg base) (C3 : CTurned P w K mg base) : FnOk P w K mg base CX0 6 f fd ["system"] spName := by
  refine F.ok scLeastName (fun vs H Q E h => ?_) (fun cdv A outer s H vs Q E hr h => ?_)
  · obtain ⟨n, t, sy, rfl, _⟩ := h
    rfl
  · obtain ⟨n, t, sy, rfl, hS, hv, q⟩ := h
    obtain ⟨f1, fd1, G1, m1, k1, b1⟩ := C1.ex
    obtain ⟨f2, fd2, G2, m2, k2, b2⟩ := C2.ex
    obtain ⟨f3, fd3, G3, m3, k3, b3⟩ := C3.ex
    have hr1 : Room 1 _ := hr.mono (by decide)
    have hu := room hr
    refine ⟨_, pss_cons (ps_expr (pe_call G1 hr (by rfl) m1 k1 b1 .nil pass0 (pa_cons (pv 0) pa_nil)))
      (pss_one (ps_ret (pe_callB (cMinS K hu) (by rfl) T.min (by decide +kernel) (pa_cons
        (pe_lc (own := [("order", 1)]) (g := gName 1) (by rfl) scLeastName.nd (piL K (pe_call G2 hr1 (by rfl) m2 k2 b2 .nil pass0 (pa_cons (pe_ix (ixT K) (pv 0) pe_int (fun _ _ => rfl)) pa_nil))) (blkOk_by (own := [("order", 1)]) (N := ["system", "order"]) (sc := defScope sLeastName) (by decide +kernel))
          (fun _ _ _ _ _ => pg_name (i := 1) scLeastName.nd rfl (Or.inl rfl)) (fun _ _ _ _ _ => pts_nil) (fun _ _ _ _ _ => pe_call G3 hr1 (by rfl) m3 k3 b3 .nil pass0 (pa_cons (pv 0) (pa_cons (pv 1) pa_nil)))) pa_nil)))), ?_⟩
    refine ⟨_, rfl, n, t, sy, rfl, hS, hv, fun H1 S1 => ?_⟩
    have hS1 := hS.mono S1
    obtain ⟨u, ks0, ht, _⟩ := id hS1
    have em : sy.1 = (n : Int) := hv.many
    refine ⟨_, rfl, t, _, 0, _, rfl, rfl, SqT.of ht, atI_nat (j := 0) rfl, n, by rw [em]; rfl, hv.hi, fun l ks H2 S2 hl hT ek => ?_⟩
    have hS2 := hS1.mono S2
    have hks : ks.length ≤ 3125 := by rw [← kys_len, ek]; exact ords_small hv.hi hv.hi
    refine ⟨l, rfl, ⟨_, SqL.of hl⟩, fun D hD => ?_⟩
    refine lc_list (K := K) (a := l) (xs := refs ks) (fun i H' => Same H2 H' ∧ ∃ ss : List (Addr × Sy), H' D = some (.lst (refS ss)) ∧ (∀ p ∈ ss, SyAt H' p.1 p.2) ∧ ss.map (·.2) = (ks.take i).map fun p => turn sy p.2)
      ⟨same_new hD _, [], upd_same, (fun p hp => by cases hp), rfl⟩ (fun i H' _ hq => SqL.of (hq.1 _ _ hl)) ?_ ?_
    · rintro i x H3 hx ⟨S3, ss, hD3, hss, e3⟩
      obtain ⟨p, hp, rfl⟩ := at_map hx
      have hpm := List.mem_of_getElem? hp
      have hil := lt_of_at hp
      have hO : IsOrd n p.2 := mem_all.mp (by rw [← ek]; exact List.mem_map.mpr ⟨p, hpm, rfl⟩)
      refine ⟨rfl, yesT ?_⟩
      refine ⟨_, rfl, _, rfl, n, t, p.1, sy, p.2, rfl, hv, S3 _ _ (hT p hpm), hS2.mono S3, hO, fun r H4 S4 hr4 => ?_⟩
      have hD4 := S4 _ _ hD3
      refine ⟨_, hD4, ?_, ?_, ss ++ [(r, turn sy p.2)], ?_, ?_, ?_⟩
      · have := congrArg List.length e3
        rw [List.length_map, List.length_map, List.length_take] at this
        rw [refS_len]
        exact sline (by omega)
      · intro b o e
        rw [upd_ne (ne_of_none e hD)]
        exact S4 _ _ (S3 b o e)
      · rw [upd_same, refS_app]
      · intro z hz
        rcases List.mem_append.mp hz with h | h
        · exact sy_upd ((hss z h).mono S4) hD4
        · rw [List.mem_singleton.mp h]
          exact sy_upd hr4 hD4
      · rw [List.map_append, e3, map_take (fun p : Addr × List Int => turn sy p.2) hp]
        rfl
    · rintro H3 ⟨S3, ss, hD3, hss, e3⟩
      rw [take_all (by rw [refs_len]; exact Nat.le_refl _)] at e3
      have e4 : ss.map (·.2) = (ords n n).map (turn sy) := by rw [e3, ← ek, List.map_map]; rfl
      have en : nameOf n sy = least (ss.map (·.2)) := by rw [e4]; rfl
      cases e5 : ss.map (·.2) with
      | nil => exact absurd (e4.symm.trans e5) (name_ne n sy)
      | cons z zs =>
        rw [e5] at en
        refine ⟨D, ss, z, zs, rfl, SqL.of hD3, (fun p hp => dp_S (hss p hp)), e5, fun p hp ep => ?_⟩
        refine q p.1 H3 (S1.trans (S2.trans S3)) ?_
        have := hss p hp
        rw [ep] at this
        rw [en]
        exact this
/-! ### same_kind -/
def spKind : Sp := fun vs H Q _ => ∃ (n m : Nat) (t u : Addr) (s1 s2 : Sy), vs = [.ref t, .ref u] ∧ SyAt H t s1 ∧ SyAt H u s2 ∧ Valid n s1 ∧ Valid m s2 ∧
  ∀ v H', Same H H' → ((v = .non ∧ nameOf n s1 ≠ nameOf m s2) ∨ ∃ o os, v = .ref o ∧ H' o = some (.tup (os.map V.int)) ∧ IsOrd n os ∧ turn s1 os = s2 ∧ nameOf n s1 = nameOf m s2) → Q v H'
theorem ok_kind {f : Addr} {fd : FuncData} (F : Fun K "same_kind" "same_kind" sSameKind f fd) (T : Glb mg) (C1 : CNeedSys P w K mg base) (C2 : COrders P w K mg base) (C3 : CTurned P w K mg base) : FnOk P w K mg base CX0 5 f fd ["one", "other"] spKind := by
  refine F.ok scSameKind (fun vs H Q E h => ?_) (fun cdv A outer s H vs Q E hr h => ?_)
  · obtain ⟨n, m, t, u, s1, s2, rfl, _⟩ := h
    rfl
  · obtain ⟨n, m, t, u, s1, s2, rfl, h1, h2, hv1, hv2, q⟩ := h
    obtain ⟨f1, fd1, G1, m1, k1, b1⟩ := C1.ex
    obtain ⟨f2, fd2, G2, m2, k2, b2⟩ := C2.ex
    obtain ⟨f3, fd3, G3, m3, k3, b3⟩ := C3.ex
    obtain ⟨tn, hn⟩ := T.names
    have hr1 : Room 1 _ := hr.mono (by decide)
    have hu := room hr
    refine ⟨_, pss_cons (ps_expr (pe_call G1 hr (by rfl) m1 k1 b1 .nil pass0 (pa_cons (pv 0) pa_nil)))
      (pss_cons (ps_expr (pe_call G1 hr (by rfl) m1 k1 b1 .nil pass0 (pa_cons (pv 1) pa_nil)))
      (pss_cons (ps_for PassesOwn.never rfl (piL K (pe_lst (pa_cons (pv 0) (pa_cons (pv 1) pa_nil)))) (pg_name (i := 2) scSameKind.nd rfl (Or.inl rfl))
        (pss_one (ps_if (pt_cmpR op_gt (pe_ix (ixT K) (pv 2) pe_int (fun _ _ => rfl)) (pe_glob (v := .int 6) (by rfl) hn ⟨_, rfl⟩) (nomark _)) (pss_one ps_never) pss_nil)))
      (pss_cons (ps_if (PW.pt (pw_or (pt_cmpR op_ne (pe_ix (ixT K) (pv 0) pe_int (fun _ _ => rfl)) (pe_ix (ixT K) (pv 1) pe_int (fun _ _ => rfl)) (nomark _))
          (pw_or1 (pt_cmpR op_ne (pe_callB (cLen K) (by rfl) T.len (by decide +kernel) (pa_cons (pe_ix (ixT K) (pv 0) pe_int (fun _ _ => rfl)) pa_nil)) (pe_callB (cLen K) (by rfl) T.len (by decide +kernel) (pa_cons (pe_ix (ixT K) (pv 1) pe_int (fun _ _ => rfl)) pa_nil)) (nomark _)))))
        (pss_one (ps_ret pe_non)) pss_nil)
      (pss_cons (ps_for PassesOwn.never rfl (piL K (pe_call G2 hr1 (by rfl) m2 k2 b2 .nil pass0 (pa_cons (pe_ix (ixT K) (pv 0) pe_int (fun _ _ => rfl)) pa_nil))) (pg_name (i := 3) scSameKind.nd rfl (Or.inl rfl))
        (pss_one (ps_if (pt_cmpR (oEqD K hu) (pe_call G3 hr1 (by rfl) m3 k3 b3 .nil pass0 (pa_cons (pv 0) (pa_cons (pv 3) pa_nil))) (pv 1) (nomark _)) (pss_one (ps_ret (pv 3))) pss_nil)))
      (pss_one (ps_ret pe_non)))))), ?_⟩
    have em1 : s1.1 = (n : Int) := hv1.many
    have em2 : s2.1 = (m : Int) := hv2.many
    have b1' := hv1.hi
    have b2' := hv2.hi
    refine ⟨_, rfl, n, t, s1, rfl, h1, hv1, fun H1 S1 => ?_⟩
    refine ⟨_, rfl, m, u, s2, rfl, h2.mono S1, hv2, fun H2 S2 => ?_⟩
    have S12 := S1.trans S2
    refine ⟨_, rfl, _, rfl, (by show 2 ≤ sizeLine; decide), fun l hl => ?_⟩
    have S3 : Same H2 (upd H2 l (.lst [.ref t, .ref u])) := same_new hl _
    have SA := S12.trans S3
    have hl3 : (upd H2 l (.lst [.ref t, .ref u])) l = some (.lst [.ref t, .ref u]) := upd_same
    refine ⟨l, rfl, ⟨_, SqL.of hl3⟩, for_list (K := K) (a := l) (xs := [.ref t, .ref u]) (fun i σ H' => (∃ x y : Option V, σ = [some (.ref t), some (.ref u), x, y]) ∧ H' = upd H2 l (.lst [.ref t, .ref u])) ⟨⟨none, none, rfl⟩, rfl⟩ (fun i σ H' _ hp => by rw [hp.2]; exact SqL.of hl3) ?_ ?_⟩
    · rintro i x σ H' hx ⟨⟨y, z, rfl⟩, rfl⟩
      have hb : ∃ (a : Addr) (c : Int) (g : V), x = .ref a ∧ (upd H2 l (.lst [.ref t, .ref u])) a = some (.tup [.int c, g]) ∧ c ≤ 5 := by
        obtain ⟨g1, _, a1, _⟩ := h1.mono SA
        obtain ⟨g2, _, a2, _⟩ := h2.mono SA
        match i, hx with
        | 0, hx => exact ⟨t, s1.1, _, (Option.some.inj hx).symm, a1, by omega⟩
        | 1, hx => exact ⟨u, s2.1, _, (Option.some.inj hx).symm, a2, by omega⟩
      obtain ⟨a, c, g, rfl, ha, hc⟩ := hb
      refine ⟨_, rfl, a, _, 0, _, rfl, rfl, SqT.of ha, atI_nat (j := 0) rfl, _, _, rfl, rfl, _, rfl, ?_⟩
      rw [decide_eq_false (show ¬ (6 : Int) < c by omega)]
      exact iteF ⟨⟨_, _, rfl⟩, rfl⟩
    · rintro σ H' ⟨⟨y, z, rfl⟩, rfl⟩
      have hA1 := h1.mono SA
      have hA2 := h2.mono SA
      obtain ⟨g1, ks1, a1, p1, t1, e1⟩ := id hA1
      obtain ⟨g2, ks2, a2, p2, t2, e2⟩ := id hA2
      refine ⟨_, rfl, t, _, 0, _, rfl, rfl, SqT.of a1, atI_nat (j := 0) rfl, _, rfl, u, _, 0, _, rfl, rfl, SqT.of a2, atI_nat (j := 0) rfl, rfl, _, rfl, ?_⟩
      by_cases c : s1.1 = s2.1
      · rw [decide_eq_true (by rw [c])]
        refine iteF ?_
        have hnm : n = m := by omega
        subst hnm
        refine ⟨_, rfl, t, _, 1, _, rfl, rfl, SqT.of a1, atI_nat (j := 1) rfl, g1, _, rfl, .inr (SqT.of p1), _, rfl, u, _, 1, _, rfl, rfl, SqT.of a2, atI_nat (j := 1) rfl, g2, _, rfl, .inr (SqT.of p2), rfl, _, rfl, ?_⟩
        have l1 : (refs ks1).length = s1.2.length := by rw [refs_len, ← kys_len, e1]
        have l2 : (refs ks2).length = s2.2.length := by rw [refs_len, ← kys_len, e2]
        rw [l1, l2]
        by_cases c2 : s1.2.length = s2.2.length
        · rw [decide_eq_true (by rw [c2])]
          refine iteF ?_
          refine ⟨_, rfl, t, _, 0, _, rfl, rfl, SqT.of a1, atI_nat (j := 0) rfl, n, by rw [em1]; rfl, b1', fun l4 ks H4 S4 hl4 hT4 ek4 => ?_⟩
          refine ⟨l4, rfl, ⟨_, SqL.of hl4⟩, for_list (K := K) (a := l4) (xs := refs ks) (fun i σ H' => (∃ x y : Option V, σ = [some (.ref t), some (.ref u), x, y]) ∧ Same H4 H' ∧ ∀ o ∈ (kys ks).take i, turn s1 o ≠ s2) ⟨⟨_, _, rfl⟩, Same.refl _, fun o ho => by cases ho⟩ (fun i σ H' _ hp => SqL.of (hp.2.1 _ _ hl4)) ?_ ?_⟩
          · rintro i x σ H5 hx ⟨⟨y, z, rfl⟩, S5, no⟩
            obtain ⟨p, hp, rfl⟩ := at_map hx
            have hpm := List.mem_of_getElem? hp
            have hO : IsOrd n p.2 := mem_all.mp (by rw [← ek4]; exact List.mem_map.mpr ⟨p, hpm, rfl⟩)
            refine ⟨_, rfl, _, rfl, n, t, p.1, s1, p.2, rfl, hv1, S5 _ _ (hT4 p hpm), (hA1.mono S4).mono S5, hO, fun r H6 S6 hr6 => ?_⟩
            refine ⟨_, rfl, dS (turn s1 p.2), dS s2, dp_S hr6, dp_S (((hA2.mono S4).mono S5).mono S6), shp_S _, shp_S _, _, rfl, ?_⟩
            rw [eqv_S]
            by_cases c3 : turn s1 p.2 = s2
            · rw [decide_eq_true c3]
              refine iteT ?_
              refine ⟨_, rfl, q _ H6 (SA.trans (S4.trans (S5.trans S6))) (.inr ⟨p.1, p.2, rfl, S6 _ _ (S5 _ _ (hT4 p hpm)), hO, c3, kind_name hv1 hO c3⟩)⟩
            · rw [decide_eq_false c3]
              refine iteF ⟨⟨_, _, rfl⟩, S5.trans S6, fun o ho => ?_⟩
              have hk : (kys ks)[i]? = some p.2 := by rw [List.getElem?_map, hp]; rfl
              rw [List.take_succ, hk] at ho
              rcases List.mem_append.mp ho with h | h
              · exact no o h
              · have : o = p.2 := by simpa using h
                rw [this]
                exact c3
          · rintro σ H5 ⟨⟨y, z, rfl⟩, S5, no⟩
            rw [take_all (by rw [kys_len, refs_len]; exact Nat.le_refl _)] at no
            refine q .non H5 (SA.trans (S4.trans S5)) (.inl ⟨rfl, fun e => ?_⟩)
            obtain ⟨o, ho, eo⟩ := name_kind hv1 hv2 e
            exact no o (by rw [ek4]; exact ho) eo
        · rw [decide_eq_false (fun e => c2 (by have := V.int.inj e; omega))]
          refine iteT (q .non _ SA (.inl ⟨rfl, fun e => ?_⟩))
          have := congrArg (fun z : Sy => z.2.length) e
          simp only [name_len] at this
          exact c2 this
      · rw [decide_eq_false (fun e => c (V.int.inj e))]
        refine iteT (iteT (q .non _ SA (.inl ⟨rfl, fun e => ?_⟩)))
        have := congrArg Prod.fst e
        rw [name_fst, name_fst] at this
        exact c this
end
end K8

namespace K8
open PySem L2
def forBody : Stmt → List Stmt
  | .For _ _ b _ _ => b
  | _ => []
def asgE : Stmt → Expr
  | .Assign _ e _ => e
  | _ => .Name "" ⟨0, 0, 0, 0⟩
def lessComp : Expr := asgE ((forBody ((defBody sLeastL).getD 1 (.Pass ⟨0, 0, 0, 0⟩))).getD 0 (.Pass ⟨0, 0, 0, 0⟩))
theorem room5 {k : Nat} {A : Around} (hr : Room k A) : A.units + 65 < cLine := by
  have := hr.un
  omega
theorem any_T (pss : List (List Int)) (x : List Int) : ((pss.map dT).any fun z => PyData.eqv z (dT x)) = decide (x ∈ pss) := by
  rw [List.any_map, Bool.eq_iff_iff, List.any_eq_true, decide_eq_true_eq]
  constructor
  · rintro ⟨y, hy, e⟩
    have e' : PyData.eqv (dT y) (dT x) = true := e
    rw [eqv_T, decide_eq_true_eq] at e'
    rw [← e']
    exact hy
  · intro h
    refine ⟨x, h, ?_⟩
    show PyData.eqv (dT x) (dT x) = true
    rw [eqv_T, decide_eq_true rfl]
/-- q is another set, within x -/
def subOf (x : List Int) (q : Addr × List Int) : Bool := !decide (q.2 = x) && ((q.2.filter fun k => !x.contains k) == [])
theorem subOf_iff {x : List Int} {q : Addr × List Int} : subOf x q = true ↔ q.2 ≠ x ∧ ∀ k ∈ q.2, k ∈ x := by
  unfold subOf
  rw [Bool.and_eq_true, Bool.not_eq_true', decide_eq_false_iff_not, beq_iff_eq, List.filter_eq_nil_iff]
  refine and_congr Iff.rfl ⟨fun h k hk => ?_, fun h k hk => ?_⟩
  · have := h k hk
    simpa using this
  · have := h k hk
    simpa using this
theorem filter_in {α : Type} {l : List α} {i : Nat} {x : α} {f : α → Bool} (h : l[i]? = some x) (c : f x = true) : (l.take (i + 1)).filter f = (l.take i).filter f ++ [x] := by
  rw [List.take_succ, h, List.filter_append]
  show _ ++ List.filter f [x] = _
  rw [List.filter_cons, if_pos c]
  rfl
theorem filter_out {α : Type} {l : List α} {i : Nat} {x : α} {f : α → Bool} (h : l[i]? = some x) (c : f x = false) : (l.take (i + 1)).filter f = (l.take i).filter f := by
  rw [List.take_succ, h, List.filter_append]
  show _ ++ List.filter f [x] = _
  rw [List.filter_cons, c, if_neg Bool.false_ne_true, List.filter_nil, List.append_nil]
section
variable {P : Program} {w : World} {K : PySem.W.Frag} {mg : Str → Option Value} {base : Heap}
/-! ### _law_least -/
def spLeast : Sp := fun vs H Q _ => ∃ (n : Nat) (l : Addr) (ks : List (Addr × List Int)), vs = [.ref l] ∧ H l = some (.lst (refs ks)) ∧ Tups H ks ∧ (∀ p ∈ ks, p.2.Pairwise (· < ·) ∧ ∀ k ∈ p.2, 0 ≤ k ∧ k < n) ∧ n ≤ 5 ∧ ks.length ≤ 6 ∧
  ∀ (u : Addr) (ks' : List (Addr × List Int)) (H' : Hp), Same H H' → H' u = some (.tup (refs ks')) → Tups H' ks' → Sets n (kys ks') → ks'.length ≤ 6 → Q (.ref u) H'
theorem ok_lleast {f : Addr} {fd : FuncData} (F : Fun K "_law_least" "_law_least" sLeastL f fd) (T : Glb mg) : FnOk P w K mg base CX0 1 f fd ["_law_sets"] spLeast := by
  refine F.ok scLeastL (fun vs H Q E h => ?_) (fun cdv A outer s H vs Q E hr h => ?_)
  · obtain ⟨n, l, ks, rfl, _⟩ := h
    rfl
  · obtain ⟨n, l, ks, rfl, hl, hT, hk, hn, h6, q⟩ := h
    have hu := room hr
    have hu5 := room5 hr
    refine ⟨_, pss_cons (ps_set (i := 1) scLeastL.nd rfl (.inl rfl) (pe_lst pa_nil))
      (pss_cons (ps_for PassesOwn.never rfl (piL K (pv 0)) (pg_name (i := 2) scLeastL.nd rfl (Or.inr rfl))
        (pss_cons (ps_setLc (i := 3) (own := [("_law_other", 4)]) (g := gName 4) (by rfl) scLeastL.nd rfl rfl (sw_true rfl rfl rfl (by decide +kernel)) (piL K (pv 0)) (blkOk_by (own := [("_law_other", 4)]) (N := ["_law_sets", "_law_found", "_law_one", "_law_less", "_law_other", "_law_k"]) (sc := defScope sLeastL) (by decide +kernel))
            (fun _ _ _ _ _ => pg_name (i := 4) scLeastL.nd rfl (Or.inl rfl))
            (fun _ _ _ _ _ => pts_one (PW.pt (pw_and (pt_cmpR (oNeD K hu) (pv 4) (pv 2) (nomark _)) (pw_and1 (pt_cmpR (oEqD K hu)
              (pe_lc (own := [("_law_k", 5)]) (g := gName 5) (by rfl) scLeastL.nd (piT K (pv 4)) (blkOk_by (own := [("_law_k", 5)]) (N := ["_law_sets", "_law_found", "_law_one", "_law_less", "_law_other", "_law_k"]) (sc := rel (lcScope lessComp) (defScope sLeastL)) (by decide +kernel))
                (fun _ _ _ _ _ => pg_name (i := 5) scLeastL.nd rfl (Or.inl rfl)) (fun _ _ _ _ _ => pts_one (pt_cmpR (oNotIn K) (pv 5) (pv 2) (by rfl))) (fun _ _ _ _ _ => pv 5))
              (pe_lst pa_nil) (nomark _))))))
            (fun _ _ _ _ _ => pv 4))
        (pss_one (ps_set (i := 1) scLeastL.nd rfl (.inl rfl) (pe_op op_cat (pv 1) (pe_ifExp (PW.pt (pw_and (pt_cmpR (oEqD K hu) (pv 3) (pe_lst pa_nil) (nomark _)) (pw_and1 (pt_cmpR (oNotInD K hu5) (pv 2) (pv 1) (by rfl))))) (pe_lst (pa_cons (pv 2) pa_nil)) (pe_lst pa_nil)))))))
      (pss_one (ps_ret (pe_callTy (cTup K) (by rfl) T.tuple (by decide +kernel) (pa_cons (pe_callB (cSrtT K) (by rfl) T.sorted (by decide +kernel) (pa_cons (pv 1) pa_nil)) pa_nil))))), ?_⟩
    have pl : ∀ p ∈ ks, p.2.length ≤ 5 := fun p hp => Nat.le_trans (asc_len (hk p hp).1 (hk p hp).2) hn
    refine ⟨Nat.zero_le _, fun f0 n0 => ?_⟩
    have S0 : Same H (upd H f0 (.lst [])) := same_new n0 _
    refine ⟨_, rfl, l, rfl, ⟨_, SqL.of (S0 _ _ hl)⟩, for_list (K := K) (a := l) (xs := refs ks) (fun i σ H' => ∃ (f1 : Addr) (fs : List (Addr × List Int)) (x y : Option V), σ = [some (.ref l), some (.ref f1), x, y, none, none] ∧ Same H H' ∧ H' f1 = some (.lst (refs fs)) ∧
      (∀ p ∈ fs, p ∈ ks ∧ ∀ y ∈ kys ks, (∀ k ∈ y, k ∈ p.2) → y = p.2) ∧ (kys fs).Nodup ∧ fs.length ≤ i)
      ⟨f0, [], none, none, rfl, S0, upd_same, (fun p hp => by cases hp), List.nodup_nil, Nat.le_refl _⟩ (fun i σ' H' _ hp => ?_) ?_ ?_⟩
    · obtain ⟨_, _, _, _, _, S1, _⟩ := hp
      exact SqL.of (S1 _ _ hl)
    · rintro i x σ H1 hx ⟨f1, fs, y, z, rfl, S1, hf1, hfs, nd, hlen⟩
      obtain ⟨p, hp, rfl⟩ := at_map hx
      have hpm := List.mem_of_getElem? hp
      have hil := lt_of_at hp
      -- less
      refine ⟨_, rfl, l, rfl, ⟨_, SqL.of (S1 _ _ hl)⟩, fun D hD => ?_⟩
      refine lc_list (K := K) (a := l) (xs := refs ks) (fun j H' => Same H1 H' ∧ H' D = some (.lst (refs ((ks.take j).filter (subOf p.2))))) ⟨same_new hD _, upd_same⟩ (fun j H' _ hq => SqL.of (hq.1 _ _ (S1 _ _ hl))) ?_ ?_
      · rintro j x2 H2 hx2 ⟨S2, hD2⟩
        obtain ⟨r, hr2, rfl⟩ := at_map hx2
        have hrm := List.mem_of_getElem? hr2
        have hjl := lt_of_at hr2
        have SA := S1.trans S2
        have hr0 := SA _ _ (hT r hrm)
        refine ⟨rfl, ?_⟩
        refine ⟨_, rfl, _, rfl, dT r.2, dT p.2, dp_T hr0, dp_T (SA _ _ (hT p hpm)), shp_T _, shp_T _, _, rfl, ?_⟩
        rw [eqv_T]
        by_cases c : r.2 = p.2
        · rw [decide_eq_true c]
          refine iteF (iteF ⟨S2, ?_⟩)
          rw [filter_out hr2 (by unfold subOf; rw [decide_eq_true c]; rfl)]
          exact hD2
        · rw [decide_eq_false c]
          refine iteT ?_
          refine ⟨_, rfl, r.1, rfl, ⟨_, SqT.of hr0⟩, fun D3 hD3 => ?_⟩
          refine lc_tup (K := K) (a := r.1) (xs := r.2.map V.int) (fun m H' => Same H2 H' ∧ H' D3 = some (.lst (((r.2.take m).filter fun k => !p.2.contains k).map V.int))) ⟨same_new hD3 _, upd_same⟩ (fun m H' _ hq => SqT.of (hq.1 _ _ hr0)) ?_ ?_
          · rintro m x4 H4 hx4 ⟨S4, hD4⟩
            obtain ⟨k, hk4, rfl⟩ := at_map hx4
            have hml := lt_of_at hk4
            refine ⟨rfl, ?_⟩
            refine ⟨_, rfl, _, rfl, p.1, _, rfl, .inr (SqT.of (S4 _ _ (SA _ _ (hT p hpm)))), rfl, flat_ints _, _, rfl, ?_⟩
            rw [if_pos rfl, inV_int]
            cases c4 : p.2.contains k with
            | true =>
              show if (false : Bool) = true then _ else _
              rw [if_neg Bool.false_ne_true]
              refine ⟨S4, ?_⟩
              rw [filter_out hk4 (by rw [c4]; rfl)]
              exact hD4
            | false =>
              refine iteT ⟨_, rfl, _, hD4, ?_, ?_, ?_⟩
              · have := pl r hrm
                have h1 := List.length_filter_le (fun k => !p.2.contains k) (r.2.take m)
                rw [List.length_take] at h1
                rw [List.length_map]
                exact small1000 (by omega)
              · intro b o e
                rw [upd_ne (ne_of_none e hD3)]
                exact S4 b o e
              · rw [upd_same, filter_in hk4 (by rw [c4]; rfl), List.map_append]
                rfl
          · rintro H4 ⟨S4, hD4⟩
            rw [take_all (by rw [List.length_map]; exact Nat.le_refl _)] at hD4
            refine ⟨Nat.zero_le _, fun D5 n5 => ?_⟩
            have S5 : Same H4 (upd H4 D5 (.lst [])) := same_new n5 _
            refine ⟨dL (r.2.filter fun k => !p.2.contains k), dL [], dp_L (S5 _ _ hD4), dp_nil upd_same, shp_L _, shp_L [], _, rfl, ?_⟩
            rw [eqv_L]
            have S25 := S4.trans S5
            have hD5 := S25 _ _ hD2
            by_cases c6 : (r.2.filter fun k => !p.2.contains k) = []
            · rw [decide_eq_true c6]
              have so : subOf p.2 r = true := by unfold subOf; rw [decide_eq_false c, c6]; rfl
              refine iteT ⟨_, rfl, _, hD5, ?_, ?_, ?_⟩
              · have h1 := List.length_filter_le (subOf p.2) (ks.take j)
                rw [List.length_take] at h1
                rw [refs_len]
                exact small1000 (by omega)
              · intro b o e
                rw [upd_ne (ne_of_none e hD)]
                exact S25 _ _ (S2 b o e)
              · rw [upd_same, filter_in hr2 so, refs_app]
            · rw [decide_eq_false c6]
              have so : subOf p.2 r = false := by
                unfold subOf
                rw [decide_eq_false c, Bool.not_false, Bool.true_and]
                exact beq_eq_false_iff_ne.mpr c6
              refine iteF ⟨S2.trans S25, ?_⟩
              rw [filter_out hr2 so]
              exact hD5
      · rintro H2 ⟨S2, hD2⟩
        rw [take_all (by rw [refs_len]; exact Nat.le_refl _)] at hD2
        generalize hls : ks.filter (subOf p.2) = ls at hD2
        have SA := S1.trans S2
        have hf2 := S2 _ _ hf1
        have hlT : Tups H2 ls := fun r hr2 => SA _ _ (hT r (by rw [← hls] at hr2; exact (List.mem_filter.mp hr2).1))
        -- found + ([one] if .. else [])
        refine ⟨_, rfl, _, rfl, Nat.zero_le _, fun D3 n3 => ?_⟩
        have S3 : Same H2 (upd H2 D3 (.lst [])) := same_new n3 _
        refine ⟨dLT (kys ls), dLT [], dp_LT (S3 _ _ hD2) (hlT.mono S3), .lst (SqL.of upd_same) .nil, shp_LT _, shp_LT [], _, rfl, ?_⟩
        rw [eqv_LT]
        have fin : ∀ (H3 : Hp) (b : Addr) (gs : List (Addr × List Int)), Same H2 H3 → H3 b = some (.lst (refs gs)) → gs.length ≤ 1 → (∀ g ∈ gs, g = p ∧ ls = [] ∧ p.2 ∉ kys fs) →
            rCat (.ref f1) (.ref b) H3 (fun v H4 => ∃ (f1 : Addr) (fs : List (Addr × List Int)) (x y : Option V), ((([some (.ref l), some (.ref f1), some (V.ref p.1), some (V.ref D), none, none] : L2.St)).set 1 (some v)) = [some (.ref l), some (.ref f1), x, y, none, none] ∧ Same H H4 ∧ H4 f1 = some (.lst (refs fs)) ∧
              (∀ p ∈ fs, p ∈ ks ∧ ∀ y ∈ kys ks, (∀ k ∈ y, k ∈ p.2) → y = p.2) ∧ (kys fs).Nodup ∧ fs.length ≤ i + 1) := by
          intro H3 b gs S23 hb hg1 hg
          refine ⟨f1, b, _, _, rfl, rfl, S23 _ _ hf2, hb, ?_, fun m hm => ?_⟩
          · rw [refs_len, refs_len]
            exact small (by omega)
          · have S4 : Same H3 (upd H3 m (.lst (refs fs ++ refs gs))) := same_new hm _
            refine ⟨m, fs ++ gs, some (V.ref p.1), some (V.ref D), rfl, SA.trans (S23.trans S4), ?_, fun g hg2 => ?_, ?_, ?_⟩
            · rw [upd_same]
              show _ = some (HO.lst (List.map _ (fs ++ gs)))
              rw [List.map_append]
            · rcases List.mem_append.mp hg2 with h | h
              · exact hfs g h
              · obtain ⟨e1, e2, _⟩ := hg g h
                rw [e1]
                refine ⟨hpm, fun y hy hs => ?_⟩
                obtain ⟨r, hr2, rfl⟩ := List.mem_map.mp hy
                by_cases c : r.2 = p.2
                · exact c
                · have : r ∈ ls := by rw [← hls]; exact List.mem_filter.mpr ⟨hr2, subOf_iff.mpr ⟨c, hs⟩⟩
                  rw [e2] at this
                  cases this
            · show (List.map _ (fs ++ gs)).Nodup
              rw [List.map_append, List.nodup_append]
              refine ⟨nd, ?_, fun a ha b2 hb2 => ?_⟩
              · match gs, hg1 with
                | [], _ => exact List.nodup_nil
                | [g], _ => simp
              · obtain ⟨g, hg2, e⟩ := List.mem_map.mp hb2
                obtain ⟨e1, _, e3⟩ := hg g hg2
                intro e4
                exact e3 (by rw [← e1, e, ← e4]; exact ha)
            · rw [List.length_append]
              omega
        by_cases c : kys ls = []
        · rw [decide_eq_true c]
          have els : ls = [] := List.map_eq_nil_iff.mp c
          refine iteT ?_
          have hfT : Tups (upd H2 D3 (.lst [])) fs := fun r hr2 => S3 _ _ (SA _ _ (hT r (hfs r hr2).1))
          refine ⟨_, rfl, _, rfl, dT p.2, (kys fs).map dT, dp_T (S3 _ _ (SA _ _ (hT p hpm))), dp_LT (S3 _ _ hf2) hfT, shp_T _, shp_LT _, _, rfl, ?_⟩
          rw [any_T]
          by_cases c2 : p.2 ∈ kys fs
          · rw [decide_eq_true c2]
            refine iteF ⟨Nat.zero_le _, fun D4 n4 => ?_⟩
            exact fin _ D4 [] (S3.trans (same_new n4 _)) upd_same (Nat.zero_le _) fun g hg => by cases hg
          · rw [decide_eq_false c2]
            refine iteT ⟨_, rfl, (by show 1 ≤ sizeLine; decide), fun D4 n4 => ?_⟩
            exact fin _ D4 [p] (S3.trans (same_new n4 _)) upd_same (Nat.le_refl _) fun g hg => ⟨List.mem_singleton.mp hg, els, c2⟩
        · rw [decide_eq_false c]
          refine iteF (iteF ⟨Nat.zero_le _, fun D4 n4 => ?_⟩)
          exact fin _ D4 [] (S3.trans (same_new n4 _)) upd_same (Nat.zero_le _) fun g hg => by cases hg
    · rintro σ H1 ⟨f1, fs, y, z, rfl, S1, hf1, hfs, nd, hlen⟩
      rw [refs_len] at hlen
      have hfT : Tups H1 fs := fun r hr2 => S1 _ _ (hT r (hfs r hr2).1)
      have mk : ∀ x ∈ kys fs, x ∈ kys ks ∧ ∀ y ∈ kys ks, (∀ k ∈ y, k ∈ x) → y = x := fun x hx => by
        obtain ⟨r, hr2, rfl⟩ := List.mem_map.mp hx
        exact ⟨List.mem_map.mpr ⟨r, (hfs r hr2).1, rfl⟩, (hfs r hr2).2⟩
      have hsets : Sets n (srtT (kys fs)) := least_sets (sets := kys ks) (fun ps hps => by
        obtain ⟨r, hr2, rfl⟩ := List.mem_map.mp hps
        exact hk r hr2) mk nd
      refine ⟨_, rfl, f1, fs, rfl, SqL.of hf1, (fun r hr2 => SqT.of (hfT r hr2)), fun h2 r hr2 => ?_, fun ks2 z2 pm so hz => ?_⟩
      · exact ne_of_two nd (fun a ha b hb hs => (mk b hb).2 a (mk a ha).1 hs) (by rw [kys_len]; exact h2) r.2 (List.mem_map.mpr ⟨r, hr2, rfl⟩)
      · have en : kys ks2 = srtT (kys fs) := srt_unique sto_llt (pm.map _) so
        have S3 := same_new hz (.lst (refs ks2))
        refine ⟨z2, refs ks2, rfl, .inl ⟨SqL.of upd_same, fun u2 hu2 => ?_⟩⟩
        have S4 := same_new hu2 (.tup (refs ks2))
        have S34 := S3.trans S4
        refine q u2 ks2 _ (S1.trans S34) upd_same (fun r hr2 => S34 _ _ (hfT r (pm.mem_iff.mp hr2))) (by rw [en]; exact hsets) ?_
        rw [pm.length_eq]
        omega
end
end K8

namespace K8
open PySem L2
theorem ixQ (K : PySem.W.Frag) {X : Cx} (e : X.K = K := by rfl) : IxR X (rIx K) := by subst e; exact ix_seq
/-- two values of the same numbers, tuples and lists, k deep -/
def Al (H : Hp) : Nat → V → V → Prop
  | 0, x, y => ∃ i, x = .int i ∧ y = .int i
  | k + 1, x, y => (∃ i, x = .int i ∧ y = .int i) ∨ ∃ (a b : Addr) (xs ys : List V), x = .ref a ∧ y = .ref b ∧ ((H a = some (.tup xs) ∧ H b = some (.tup ys)) ∨ (H a = some (.lst xs) ∧ H b = some (.lst ys))) ∧
      xs.length = ys.length ∧ xs.length ≤ 1000 ∧ ∀ (j : Nat) (u v : V), xs[j]? = some u → ys[j]? = some v → Al H k u v
theorem Al.mono {H H' : Hp} (e : Same H H') : ∀ {k : Nat} {x y : V}, Al H k x y → Al H' k x y
  | 0, _, _, h => h
  | k + 1, _, _, .inl h => .inl h
  | k + 1, _, _, .inr ⟨a, b, xs, ys, h1, h2, h3, h4, h5, h6⟩ => .inr ⟨a, b, xs, ys, h1, h2, h3.imp (fun h => ⟨e _ _ h.1, e _ _ h.2⟩) (fun h => ⟨e _ _ h.1, e _ _ h.2⟩), h4, h5, fun j u v p q => Al.mono e (h6 j u v p q)⟩
def spA : Nat → Sp
  | 0 => fun _ _ _ _ => False
  | k + 1 => fun vs H Q _ => ∃ x y, vs = [x, y] ∧ Al H k x y ∧ ∀ H', Same H H' → Q (.bl true) H'
section
variable {K : PySem.W.Frag}
theorem kTL_t : PySem.W.kitAny K (.type "tuple") [.type "tuple", .type "list"] = some true := kitAny_cons (b := true) (kit_ty (by decide +kernel)) (fun h => by cases h) (fun _ => rfl)
theorem kTL_l : PySem.W.kitAny K (.type "list") [.type "tuple", .type "list"] = some true := kitAny_cons (b := false) (kit_ty (by decide +kernel)) (fun _ => kitAny_cons (b := true) (kit_ty (by decide +kernel)) (fun h => by cases h) (fun _ => rfl)) (fun h => by cases h)
theorem kTL_i : PySem.W.kitAny K (.type "int") [.type "tuple", .type "list"] = some false := kitAny_cons (b := false) (kit_ty (by decide +kernel)) (fun _ => kitAny_cons (b := false) (kit_ty (by decide +kernel)) (fun _ => kitAny_nil) (fun h => by cases h)) (fun h => by cases h)
end
section
variable {P : Program} {w : World} {K : PySem.W.Frag} {mg : Str → Option Value} {base : Heap}
theorem alike_no {f : Addr} {fd : FuncData} : FnOk P w K mg base CX0 0 f fd ["_law_found", "_law_due"] (spA 0) :=
  ⟨fun vs H Q E h => h.elim, fun A outer s H args us vs Q E _ _ _ _ h => h.elim⟩
theorem ok_alike {f : Addr} {fd : FuncData} {k : Nat} (F : Fun K "_law_alike" "_law_alike" sAlike f fd) (T : Glb mg) (G : FnOk P w K mg base CX0 k f fd ["_law_found", "_law_due"] (spA k)) (bG : Binds K fd ["_law_found", "_law_due"] []) (mG : mg "_law_alike" = some (.ref f)) :
    FnOk P w K mg base CX0 (k + 1) f fd ["_law_found", "_law_due"] (spA (k + 1)) := by
  refine F.ok scAlike (fun vs H Q E h => ?_) (fun cdv A outer s H vs Q E hr h => ?_)
  · obtain ⟨x, y, rfl, _⟩ := h
    rfl
  · obtain ⟨x, y, rfl, ha, q⟩ := h
    have hu := room hr
    refine ⟨_, pss_cons (ps_if (pt_val (pe_callB (cIsiT K) (by rfl) T.isi (by decide +kernel) (pa_cons (pv 1) (pa_cons (pe_tup (pa_cons (pe_bltn (v := .ty "tuple") (by rfl) T.tuple (by decide +kernel) rfl) (pa_cons (pe_bltn (v := .ty "list") (by rfl) T.list (by decide +kernel) rfl) pa_nil))) pa_nil))))
        (pss_cons (ps_if (PW.pt (pw_or (pt_not (pt_val (pe_callB (cIsiT K) (by rfl) T.isi (by decide +kernel) (pa_cons (pv 0) (pa_cons (pe_tup (pa_cons (pe_bltn (v := .ty "tuple") (by rfl) T.tuple (by decide +kernel) rfl) (pa_cons (pe_bltn (v := .ty "list") (by rfl) T.list (by decide +kernel) rfl) pa_nil))) pa_nil)))))
            (pw_or1 (pt_cmpR op_ne (pe_callB (cIsi K) (by rfl) T.isi (by decide +kernel) (pa_cons (pv 0) (pa_cons (pe_bltn (v := .ty "list") (by rfl) T.list (by decide +kernel) rfl) pa_nil))) (pe_callB (cIsi K) (by rfl) T.isi (by decide +kernel) (pa_cons (pv 1) (pa_cons (pe_bltn (v := .ty "list") (by rfl) T.list (by decide +kernel) rfl) pa_nil))) (nomark _)))))
          (pss_one (ps_ret pe_bl)) pss_nil)
        (pss_cons (ps_if (pt_cmpR op_ne (pe_callB (cLen K) (by rfl) T.len (by decide +kernel) (pa_cons (pv 0) pa_nil)) (pe_callB (cLen K) (by rfl) T.len (by decide +kernel) (pa_cons (pv 1) pa_nil)) (nomark _)) (pss_one (ps_ret pe_bl)) pss_nil)
        (pss_one (ps_ret (pe_cmpR (oEqD K hu) (pe_lc (own := [("_law_k", 2)]) (g := gName 2) (by rfl) scAlike.nd (pi_range1 (by rfl) T.range (pa_cons (pe_callB (cLen K) (by rfl) T.len (by decide +kernel) (pa_cons (pv 1) pa_nil)) pa_nil)) (blkOk_by (own := [("_law_k", 2)]) (N := ["_law_found", "_law_due", "_law_k"]) (sc := defScope sAlike) (by decide +kernel))
            (fun _ _ _ _ _ => pg_name (i := 2) scAlike.nd rfl (Or.inl rfl)) (fun _ _ _ _ _ => pts_one (pt_not (pt_val (pe_call G hr (by rfl) mG F.kp bG .nil pass0 (pa_cons (pe_ix (ixQ K) (pv 0) (pv 2) (fun _ _ => rfl)) (pa_cons (pe_ix (ixQ K) (pv 1) (pv 2) (fun _ _ => rfl)) pa_nil)))))) (fun _ _ _ _ _ => pv 2)) (pe_lst pa_nil) (nomark _)))))) pss_nil)
      (pss_cons (ps_if (PW.pt (pw_or (pt_cmpR op_isN (pv 1) pe_non (nomark _)) (pw_or1 (pt_val (pe_callB (cIsi K) (by rfl) T.isi (by decide +kernel) (pa_cons (pv 1) (pa_cons (pe_bltn (v := .ty "str") (by rfl) T.str (by decide +kernel) rfl) pa_nil))))))) (pss_one ps_never) pss_nil)
      (pss_one (ps_ret (pe_and (pe_callB (cIsi K) (by rfl) T.isi (by decide +kernel) (pa_cons (pv 0) (pa_cons (pe_bltn (v := .ty "int") (by rfl) T.int (by decide +kernel) rfl) pa_nil)))
        (pe_and (pe_cmpR op_eq (pe_callB (cIsi K) (by rfl) T.isi (by decide +kernel) (pa_cons (pv 0) (pa_cons (pe_bltn (v := .ty "bool") (by rfl) T.bool (by decide +kernel) rfl) pa_nil))) (pe_callB (cIsi K) (by rfl) T.isi (by decide +kernel) (pa_cons (pv 1) (pa_cons (pe_bltn (v := .ty "bool") (by rfl) T.bool (by decide +kernel) rfl) pa_nil))) (nomark _))
        (pe_one (pe_cmpR op_eq (pv 0) (pv 1) (nomark _)))))))), ?_⟩
    have two : ([V.ty "tuple", V.ty "list"] : List V).length ≤ sizeLine := by show 2 ≤ sizeLine; decide
    have cls2 : Paired ClsV [V.ty "tuple", V.ty "list"] [Value.type "tuple", Value.type "list"] := .cons (.ty _) (.cons (.ty _) .nil)
    refine ⟨_, rfl, two, fun p1 n1 => ?_⟩
    have S1 : Same H (upd H p1 (.tup [.ty "tuple", .ty "list"])) := same_new n1 _
    have num : (∃ i, x = .int i ∧ y = .int i) ∨ ∃ (j : Nat) (a b : Addr) (xs ys : List V), k = j + 1 ∧ x = .ref a ∧ y = .ref b ∧ ((H a = some (.tup xs) ∧ H b = some (.tup ys)) ∨ (H a = some (.lst xs) ∧ H b = some (.lst ys))) ∧
        xs.length = ys.length ∧ xs.length ≤ 1000 ∧ ∀ (m : Nat) (u v : V), xs[m]? = some u → ys[m]? = some v → Al H j u v := by
      cases k with
      | zero => exact .inl ha
      | succ j =>
        rcases ha with h | ⟨a, b, xs, ys, h⟩
        · exact .inl h
        · exact .inr ⟨j, a, b, xs, ys, rfl, h⟩
    rcases num with ⟨i, rfl, rfl⟩ | ⟨j, a, b, xs, ys, rfl, rfl, rfl, hab, hlen, h1000, hch⟩
    · -- two equal numbers
      refine ⟨_, p1, _, _, _, false, rfl, upd_same, cls2, .base (.int i), kTL_i, _, rfl, iteF ?_⟩
      refine ⟨_, rfl, rfl, _, rfl, iteF ?_⟩
      refine ⟨_, rfl, _, _, _, _, false, rfl, .ty _, .base (.int i), kit_ty (by decide +kernel), _, rfl, iteF ?_⟩
      refine ⟨_, rfl, _, _, _, _, true, rfl, .ty _, .base (.int i), kit_ty (by decide +kernel), _, rfl, iteT ?_⟩
      refine ⟨_, rfl, _, _, _, _, false, rfl, .ty _, .base (.int i), kit_ty (by decide +kernel), ?_⟩
      refine ⟨_, rfl, _, _, _, _, false, rfl, .ty _, .base (.int i), kit_ty (by decide +kernel), rfl, _, rfl, iteT ?_⟩
      refine ⟨_, rfl, _, rfl, rfl, ?_⟩
      rw [decide_eq_true rfl]
      exact q _ S1
    · -- two tuples, two lists
      have hab1 := hab.imp (fun h => (⟨S1 _ _ h.1, S1 _ _ h.2⟩ : _ ∧ _)) (fun h => (⟨S1 _ _ h.1, S1 _ _ h.2⟩ : _ ∧ _))
      have ty : ∀ {H2 : Hp}, Same H H2 → ∃ t : Value, TyX K H2 (.ref a) t ∧ TyX K H2 (.ref b) t ∧ PySem.W.kitAny K t [.type "tuple", .type "list"] = some true ∧ ∃ c : Bool, PySem.W.kitOne K t (.type "list") = some c := fun {H2} S => by
        rcases hab with ⟨h1, h2⟩ | ⟨h1, h2⟩
        · exact ⟨_, .base (.tup (S _ _ h1)), .base (.tup (S _ _ h2)), kTL_t, false, kit_ty (by decide +kernel)⟩
        · exact ⟨_, .base (.lst (S _ _ h1)), .base (.lst (S _ _ h2)), kTL_l, true, kit_ty (by decide +kernel)⟩
      obtain ⟨t1, ta, tb, e1, c1, ec1⟩ := ty S1
      refine ⟨_, p1, _, _, _, true, rfl, upd_same, cls2, tb, e1, _, rfl, iteT ?_⟩
      refine ⟨_, rfl, two, fun p2 n2 => ?_⟩
      have S2 := S1.trans (same_new n2 (.tup [.ty "tuple", .ty "list"]))
      obtain ⟨t2, ta2, tb2, e2, c2, ec2⟩ := ty S2
      refine ⟨_, p2, _, _, _, true, rfl, upd_same, cls2, ta2, e2, _, rfl, iteF ?_⟩
      refine ⟨_, rfl, _, _, _, _, c2, rfl, .ty _, ta2, ec2, ?_⟩
      refine ⟨_, rfl, _, _, _, _, c2, rfl, .ty _, tb2, ec2, rfl, _, rfl, ?_⟩
      rw [decide_eq_true rfl]
      refine iteF ?_
      generalize upd (upd H p1 (.tup [.ty "tuple", .ty "list"])) p2 (.tup [.ty "tuple", .ty "list"]) = H2 at S2 ta2 tb2
      have sq : ∀ {H3 : Hp}, Same H H3 → (SqL K H3 a xs ∨ SqT K H3 a xs) ∧ (SqL K H3 b ys ∨ SqT K H3 b ys) := fun S => by
        rcases hab with ⟨h1, h2⟩ | ⟨h1, h2⟩
        · exact ⟨.inr (SqT.of (S _ _ h1)), .inr (SqT.of (S _ _ h2))⟩
        · exact ⟨.inl (SqL.of (S _ _ h1)), .inl (SqL.of (S _ _ h2))⟩
      refine ⟨_, rfl, a, xs, rfl, (sq S2).1, _, rfl, b, ys, rfl, (sq S2).2, rfl, _, rfl, ?_⟩
      rw [decide_eq_true (by rw [hlen])]
      refine iteF ?_
      refine ⟨_, rfl, b, ys, rfl, (sq S2).2, (ys.length : Int), rfl, by omega, by omega, fun D hD => ?_⟩
      refine lc_range (lo := 0) (n := (ys.length : Int).toNat) (fun m H' => Same H H' ∧ H' D = some (.lst [])) ⟨S2.trans (same_new hD _), upd_same⟩ ?_ ?_
      · rintro m H3 hm ⟨S3, hD3⟩
        have hmy : m < ys.length := by omega
        have hmx : m < xs.length := by omega
        have gx : atI xs (0 + (m : Nat)) = some xs[m] := at_of (j := m) (Int.zero_add _) (List.getElem?_eq_getElem hmx)
        have gy : atI ys (0 + (m : Nat)) = some ys[m] := at_of (j := m) (Int.zero_add _) (List.getElem?_eq_getElem hmy)
        have ix : ∀ {v : V} {Q' : VK}, atI xs (0 + (m : Nat)) = some v → Q' v H3 → rIx K (.ref a) (.int (0 + (m : Nat))) H3 Q' := fun {v Q'} g h => by
          rcases (sq S3).1 with s | s
          · exact .inl ⟨a, xs, _, v, rfl, rfl, s, g, h⟩
          · exact .inr (.inl ⟨a, xs, _, v, rfl, rfl, s, g, h⟩)
        have iy : ∀ {v : V} {Q' : VK}, atI ys (0 + (m : Nat)) = some v → Q' v H3 → rIx K (.ref b) (.int (0 + (m : Nat))) H3 Q' := fun {v Q'} g h => by
          rcases (sq S3).2 with s | s
          · exact .inl ⟨b, ys, _, v, rfl, rfl, s, g, h⟩
          · exact .inr (.inl ⟨b, ys, _, v, rfl, rfl, s, g, h⟩)
        refine ⟨rfl, ?_⟩
        refine ⟨_, rfl, _, rfl, ix gx ⟨_, rfl, _, rfl, iy gy ?_⟩⟩
        refine ⟨xs[m], ys[m], rfl, (hch m _ _ (List.getElem?_eq_getElem hmx) (List.getElem?_eq_getElem hmy)).mono S3, fun H4 S4 => ?_⟩
        exact ⟨_, rfl, iteF ⟨S3.trans S4, S4 _ _ hD3⟩⟩
      · rintro H3 ⟨S3, hD3⟩
        refine ⟨Nat.zero_le _, fun D4 n4 => ?_⟩
        have S4 : Same H3 (upd H3 D4 (.lst [])) := same_new n4 _
        refine ⟨dL [], dL [], dp_nil (S4 _ _ hD3), dp_nil upd_same, shp_L [], shp_L [], ?_⟩
        rw [eqv_L, decide_eq_true rfl]
        exact q _ (S3.trans S4)
theorem alike_all {f : Addr} {fd : FuncData} (F : Fun K "_law_alike" "_law_alike" sAlike f fd) (T : Glb mg) (bG : Binds K fd ["_law_found", "_law_due"] []) (mG : mg "_law_alike" = some (.ref f)) : ∀ k, FnOk P w K mg base CX0 k f fd ["_law_found", "_law_due"] (spA k)
  | 0 => alike_no
  | k + 1 => ok_alike F T (alike_all F T bG mG k) bG mG
end
end K8

namespace K8
open PySem L2
theorem row_lst_ne {K : PySem.W.Frag} {H : Hp} {r sc t : Addr} {ns : List Int} {xs : List V} (R : RowOk K H r sc ns) (h : H t = some (.tup xs)) : t ≠ r := by
  obtain ⟨ys, hy⟩ := R.lst
  exact ne_of h hy (by intro z; cases z)
theorem tups_but {K : PySem.W.Frag} {H H' : Hp} {r sc : Addr} {ns : List Int} {ks : List (Addr × List Int)} (R : RowOk K H r sc ns) (B : But r H H') (h : Tups H ks) : Tups H' ks := fun p hp => B _ _ (h p hp) (row_lst_ne R (h p hp))
theorem sy_but {K : PySem.W.Frag} {H H' : Hp} {r sc t : Addr} {ns : List Int} {s : Sy} (R : RowOk K H r sc ns) (B : But r H H') (h : SyAt H t s) : SyAt H' t s := by
  obtain ⟨u, ks, h1, h2, h3, h4⟩ := h
  exact ⟨u, ks, B _ _ h1 (row_lst_ne R h1), B _ _ h2 (row_lst_ne R h2), tups_but R B h3, h4⟩
theorem row_upd {K : PySem.W.Frag} {H0 H : Hp} {r sc D : Addr} {ns : List Int} {xs ys : List V} (R0 : RowOk K H0 r sc ns) (B0 : But r H0 H) (hD : H0 D = none) (R : RowOk K H r sc ns) : RowOk K (upd H D (.lst ys)) r sc ns := by
  obtain ⟨p, q, e, h1, h2⟩ := R.at_
  obtain ⟨zs, hz⟩ := R0.lst
  have hne : r ≠ D := ne_of_none hz hD
  refine ⟨⟨p, q, e, by rw [upd_ne hne]; exact h1, h2⟩, fun HX BX => ?_⟩
  have B : But r H0 (upd H D (.lst ys)) := fun b o eb nb => by
    rw [upd_ne (ne_of_none eb hD)]
    exact B0 b o eb nb
  exact R0.sq HX (B.trans BX)
section
variable {P : Program} {w : World} {K : PySem.W.Frag} {mg : Str → Option Value} {base : Heap}
abbrev CSome (P : Program) (w : World) (K : PySem.W.Frag) (mg : Str → Option Value) (base : Heap) : Prop := Can P w K mg base 3 "_law_some_set" ["_law_row", "_law_many"] (spSome K)
abbrev CLeast (P : Program) (w : World) (K : PySem.W.Frag) (mg : Str → Option Value) (base : Heap) : Prop := Can P w K mg base 1 "_law_least" ["_law_sets"] spLeast
/-! ### _law_system -/
def spSystem (K : PySem.W.Frag) : Sp := fun vs H Q _ => ∃ (r sc : Addr) (ns : List Int) (m : Int), vs = [.ref r, .int m] ∧ RowOk K H r sc ns ∧ 1 ≤ m ∧ m ≤ 5 ∧
  ∀ (n : Nat) (t : Addr) (s : Sy) (H' : Hp), But r H H' → RowOk K H' r sc ns → SyAt H' t s → Valid n s → Q (.ref t) H'
theorem ok_system {f : Addr} {fd : FuncData} (F : Fun K "_law_system" "_law_system" sSystem f fd) (T : Glb mg) (C1 : CTaken P w K mg base) (C2 : CPick P w K mg base) (C3 : CSome P w K mg base) (C4 : CLeast P w K mg base) :
    FnOk P w K mg base CX0 4 f fd ["_law_row", "_law_most"] (spSystem K) := by
  refine F.ok scSystem (fun vs H Q E h => ?_) (fun cdv A outer s H vs Q E hr h => ?_)
  · obtain ⟨r, sc, ns, m, rfl, _⟩ := h
    rfl
  · obtain ⟨r, sc, ns, m, rfl, R, m1', m5, q⟩ := h
    obtain ⟨f1, fd1, G1, m1, k1, b1⟩ := C1.ex
    obtain ⟨f2, fd2, G2, m2, k2, b2⟩ := C2.ex
    obtain ⟨f3, fd3, G3, m3, k3, b3⟩ := C3.ex
    obtain ⟨f4, fd4, G4, m4, k4, b4⟩ := C4.ex
    have hr1 : Room 1 _ := hr.mono (by decide)
    have hr2 : Room 2 _ := hr.mono (by decide)
    have hu := room hr
    refine ⟨_, pss_cons (ps_set (i := 2) scSystem.nd rfl (.inr rfl) (pe_op op_add pe_int (pe_call G1 hr1 (by rfl) m1 k1 b1 .nil pass0 (pa_cons (pv 0) (pa_cons (pv 1) pa_nil)))))
      (pss_cons (ps_setLc (i := 3) (own := [("_law_turn", 4)]) (g := gName 4) (by rfl) scSystem.nd rfl rfl (sw_true rfl rfl rfl (by decide +kernel))
          (pi_range1 (by rfl) T.range (pa_cons (pe_call G2 hr2 (by rfl) m2 k2 b2 .nil pass0 (pa_cons (pv 0) (pa_cons (pe_lst (pa_cons pe_int (pa_cons pe_int (pa_cons pe_int (pa_cons pe_int (pa_cons pe_int (pa_cons pe_int pa_nil))))))) pa_nil))) pa_nil))
          (blkOk_by (own := [("_law_turn", 4)]) (N := ["_law_row", "_law_most", "_law_many", "_law_sets", "_law_turn", "_law_one"]) (sc := defScope sSystem) (by decide +kernel))
          (fun _ _ _ _ _ => pg_name (i := 4) scSystem.nd rfl (Or.inl rfl)) (fun _ _ _ _ _ => pts_nil) (fun _ _ _ _ _ => pe_call G3 hr (by rfl) m3 k3 b3 .nil pass0 (pa_cons (pv 0) (pa_cons (pv 2) pa_nil))))
      (pss_cons (ps_setLc (i := 3) (own := [("_law_one", 5)]) (g := gName 5) (by rfl) scSystem.nd rfl rfl (sw_true rfl rfl rfl (by decide +kernel)) (piL K (pv 3))
          (blkOk_by (own := [("_law_one", 5)]) (N := ["_law_row", "_law_most", "_law_many", "_law_sets", "_law_turn", "_law_one"]) (sc := defScope sSystem) (by decide +kernel))
          (fun _ _ _ _ _ => pg_name (i := 5) scSystem.nd rfl (Or.inl rfl))
          (fun _ _ _ _ _ => pts_one (PW.pt (pw_or (pt_cmpR (oNeD K hu) (pv 5) (pe_tup pa_nil) (nomark _)) (pw_or1 (pt_cmpR op_eq (pe_call G1 hr1 (by rfl) m1 k1 b1 .nil pass0 (pa_cons (pv 0) (pa_cons pe_int pa_nil))) pe_int (nomark _))))))
          (fun _ _ _ _ _ => pv 5))
      (pss_one (ps_ret (pe_tup (pa_cons (pv 2) (pa_cons (pe_call G4 hr1 (by rfl) m4 k4 b4 .nil pass0 (pa_cons (pv 3) pa_nil)) pa_nil))))))), ?_⟩
    refine ⟨_, rfl, _, rfl, r, sc, ns, m, rfl, R, m1', by omega, fun v H1 v0 v1 B1 R1 => ?_⟩
    obtain ⟨j, rfl⟩ : ∃ j : Nat, v = j := ⟨v.toNat, by omega⟩
    have ej : (1 + (j : Int)) = ((j + 1 : Nat) : Int) := by omega
    refine ⟨_, _, rfl, rfl, ?_⟩
    dsimp only
    rw [ej]
    -- sets
    refine ⟨_, rfl, (by show 6 ≤ sizeLine; decide), fun l2 n2 => ?_⟩
    have S2 : Same H1 (upd H1 l2 (.lst [.int 1, .int 2, .int 3, .int 4, .int 5, .int 6])) := same_new n2 _
    refine ⟨r, sc, l2, ns, [1, 2, 3, 4, 5, 6], rfl, R1.mono S2, upd_same, by decide, by decide, fun c H3 hc B3 R3 => ?_⟩
    have hc' : 1 ≤ c ∧ c ≤ 6 := by
      simp only [List.mem_cons, List.not_mem_nil, or_false] at hc
      omega
    have BB : But r H H3 := B1.trans ((sbut S2).trans B3)
    refine ⟨c, rfl, by omega, by omega, fun D hD => ?_⟩
    obtain ⟨rx, hrx⟩ := R3.lst
    have hDr : D ≠ r := (ne_of_none hrx hD).symm
    refine lc_range (lo := 0) (n := c.toNat) (fun i H' => But r H3 H' ∧ RowOk K H' r sc ns ∧ ∃ ks : List (Addr × List Int), H' D = some (.lst (refs ks)) ∧ Tups H' ks ∧ (∀ p ∈ ks, p.2.Pairwise (· < ·) ∧ ∀ k ∈ p.2, 0 ≤ k ∧ k < ((j + 1 : Nat) : Int)) ∧ ks.length ≤ i)
      ⟨sbut (same_new hD _), R3.mono (same_new hD _), [], upd_same, (fun p hp => by cases hp), (fun p hp => by cases hp), Nat.le_refl _⟩ ?_ ?_
    · rintro i H4 hi ⟨B4, R4, ks, hD4, hT4, hk4, hl4⟩
      refine ⟨rfl, yesT ?_⟩
      refine ⟨_, rfl, _, rfl, r, sc, ns, j + 1, rfl, R4, by omega, fun t os H5 ho hor B5 R5 ht => ?_⟩
      have hD5 := B5 D _ hD4 hDr
      have hT5 := tups_but R4 B5 hT4
      refine ⟨_, hD5, ?_, ?_, row_upd (xs := refs ks) R3 (B4.trans B5) hD R5, ks ++ [(t, os)], ?_, ?_, ?_, ?_⟩
      · rw [refs_len]
        exact small1000 (by omega)
      · intro b o e nb
        rw [upd_ne (ne_of_none e hD)]
        exact B5 b o (B4 b o e nb) nb
      · rw [upd_same, refs_app]
      · have ne5 : ∀ (b : Addr) (zs : List V), H5 b = some (.tup zs) → (upd H5 D (.lst (refs ks ++ [V.ref t]))) b = some (.tup zs) := fun b zs hb => by
          rw [upd_ne (ne_of hb hD5 (by intro z; cases z))]
          exact hb
        intro p hp
        rcases List.mem_append.mp hp with h | h
        · exact ne5 _ _ (hT5 p h)
        · rw [List.mem_singleton.mp h]
          exact ne5 _ _ ht
      · intro p hp
        rcases List.mem_append.mp hp with h | h
        · exact hk4 p h
        · rw [List.mem_singleton.mp h]
          exact ⟨ho, hor⟩
      · rw [List.length_append, List.length_singleton]
        omega
    · rintro H4 ⟨B4, R4, ks, hD4, hT4, hk4, hl4⟩
      have hks : ks.length ≤ 6 := by omega
      -- the ones that are kept
      refine ⟨_, rfl, D, rfl, ⟨_, SqL.of hD4⟩, fun D6 hD6 => ?_⟩
      obtain ⟨ry, hry⟩ := R4.lst
      have hD6r : D6 ≠ r := (ne_of_none hry hD6).symm
      refine lc_list (K := K) (a := D) (xs := refs ks) (fun i H' => But r H4 H' ∧ RowOk K H' r sc ns ∧ ∃ ls : List (Addr × List Int), H' D6 = some (.lst (refs ls)) ∧ (∀ p ∈ ls, p ∈ ks) ∧ ls.length ≤ i)
        ⟨sbut (same_new hD6 _), R4.mono (same_new hD6 _), [], upd_same, (fun p hp => by cases hp), Nat.le_refl _⟩ (fun i H' _ hp => SqL.of (hp.1 _ _ hD4 hDr)) ?_ ?_
      · rintro i x H7 hx ⟨B7, R7, ls, hl7, hin7, hlen7⟩
        obtain ⟨p, hp, rfl⟩ := at_map hx
        have hpm := List.mem_of_getElem? hp
        have hil := lt_of_at hp
        have hT7 := tups_but R4 B7 hT4
        -- it is kept, at any later heap
        have yes : ∀ H8 : Hp, But r H7 H8 → RowOk K H8 r sc ns → ∃ acc, H8 D6 = some (.lst acc) ∧ acc.length < sizeLine ∧ (But r H4 (upd H8 D6 (.lst (acc ++ [V.ref p.1]))) ∧ RowOk K (upd H8 D6 (.lst (acc ++ [V.ref p.1]))) r sc ns ∧
            ∃ ls : List (Addr × List Int), (upd H8 D6 (.lst (acc ++ [V.ref p.1]))) D6 = some (.lst (refs ls)) ∧ (∀ p ∈ ls, p ∈ ks) ∧ ls.length ≤ i + 1) := fun H8 B8 R8 => by
          have hl8 := B8 D6 _ hl7 hD6r
          refine ⟨_, hl8, ?_, ?_, row_upd (xs := refs ls) R4 (B7.trans B8) hD6 R8, ls ++ [p], ?_, ?_, ?_⟩
          · rw [refs_len]
            exact small1000 (by omega)
          · intro b o e nb
            rw [upd_ne (ne_of_none e hD6)]
            exact B8 b o (B7 b o e nb) nb
          · rw [upd_same, refs_app]
          · intro r2 hr2
            rcases List.mem_append.mp hr2 with h | h
            · exact hin7 r2 h
            · rw [List.mem_singleton.mp h]
              exact hpm
          · rw [List.length_append, List.length_singleton]
            omega
        refine ⟨rfl, ?_⟩
        refine ⟨_, rfl, Nat.zero_le _, fun e8 n8 => ?_⟩
        have S8 : Same H7 (upd H7 e8 (.tup [])) := same_new n8 _
        refine ⟨dT p.2, dT [], dp_T (S8 _ _ (hT7 p hpm)), .tup (SqT.of upd_same) .nil, shp_T _, shp_T [], _, rfl, ?_⟩
        rw [eqv_T]
        by_cases c8 : p.2 = []
        · rw [decide_eq_true c8]
          refine iteF ?_
          refine ⟨_, rfl, r, sc, ns, 9, rfl, R7.mono S8, by decide, by decide, fun v9 H9 v90 v91 B9 R9 => ?_⟩
          have B79 : But r H7 H9 := (sbut S8).trans B9
          refine ⟨rfl, _, rfl, ite2 (fun c9 => ?_) (fun c9 => ?_)⟩
          · exact ⟨_, rfl, yes H9 B79 R9⟩
          · exact ⟨B7.trans B79, R9, ls, B79 D6 _ hl7 hD6r, hin7, by omega⟩
        · rw [decide_eq_false c8]
          refine iteT (iteT ?_)
          exact ⟨_, rfl, yes _ (sbut S8) (R7.mono S8)⟩
      · rintro H7 ⟨B7, R7, ls, hl7, hin7, hlen7⟩
        rw [refs_len] at hlen7
        have hT7 := tups_but R4 B7 hT4
        refine ⟨_, rfl, _, rfl, j + 1, D6, ls, rfl, hl7, (fun p hp => hT7 p (hin7 p hp)), (fun p hp => hk4 p (hin7 p hp)), by omega, by omega, fun u9 ks9 H9 S9 hu9 hT9 hs9 hl9 => ?_⟩
        refine ⟨(by show 2 ≤ sizeLine; decide), fun t nt => ?_⟩
        have S10 : Same H9 (upd H9 t (.tup [.int ((j + 1 : Nat) : Int), .ref u9])) := same_new nt _
        have BZ : But r H (upd H9 t (.tup [.int ((j + 1 : Nat) : Int), .ref u9])) := BB.trans (B4.trans (B7.trans (sbut (S9.trans S10))))
        refine q (j + 1) t (((j + 1 : Nat) : Int), kys ks9) _ BZ (R7.mono (S9.trans S10)) ⟨u9, ks9, upd_same, S10 _ _ hu9, hT9.mono S10, rfl⟩ ⟨rfl, by omega, by omega, hs9, by rw [kys_len]; exact hl9⟩
end
end K8

namespace K8
open PySem L2
/-! ### equal data are alike -/
theorem al_int {H : Hp} (i : Int) : ∀ k, Al H k (.int i) (.int i)
  | 0 => ⟨i, rfl, rfl⟩
  | _ + 1 => .inl ⟨i, rfl, rfl⟩
theorem al_T {H : Hp} {a b : Addr} {ns : List Int} (k : Nat) (ha : H a = some (.tup (ns.map V.int))) (hb : H b = some (.tup (ns.map V.int))) (hl : ns.length ≤ 1000) : Al H (k + 1) (.ref a) (.ref b) := by
  refine .inr ⟨a, b, _, _, rfl, rfl, .inl ⟨ha, hb⟩, rfl, by rw [List.length_map]; exact hl, fun j u v p q => ?_⟩
  obtain ⟨n, _, rfl⟩ := at_map p
  have e := Option.some.inj (p.symm.trans q)
  rw [← e]
  exact al_int n k
theorem al_TT {H : Hp} {a b : Addr} {ks ls : List (Addr × List Int)} (k : Nat) (ha : H a = some (.tup (refs ks))) (hb : H b = some (.tup (refs ls))) (hk : Tups H ks) (hl : Tups H ls) (e : kys ks = kys ls) (h1 : ks.length ≤ 1000) (h2 : ∀ p ∈ ks, p.2.length ≤ 1000) : Al H (k + 2) (.ref a) (.ref b) := by
  have len : (refs ks).length = (refs ls).length := by rw [refs_len, refs_len, ← kys_len, ← kys_len, e]
  refine .inr ⟨a, b, _, _, rfl, rfl, .inl ⟨ha, hb⟩, len, by rw [refs_len]; exact h1, fun j u v p q => ?_⟩
  obtain ⟨x, hx, rfl⟩ := at_map p
  obtain ⟨y, hy, rfl⟩ := at_map q
  have e2 : x.2 = y.2 := by
    have a1 : (kys ks)[j]? = some x.2 := by rw [List.getElem?_map, hx]; rfl
    have a2 : (kys ls)[j]? = some y.2 := by rw [List.getElem?_map, hy]; rfl
    rw [e] at a1
    exact Option.some.inj (a1.symm.trans a2)
  have hxm := List.mem_of_getElem? hx
  have hy1 := hl y (List.mem_of_getElem? hy)
  rw [← e2] at hy1
  exact al_T k (hk x hxm) hy1 (h2 x hxm)
theorem al_S {H : Hp} {a b : Addr} {s : Sy} {n : Nat} (k : Nat) (ha : SyAt H a s) (hb : SyAt H b s) (hv : Valid n s) : Al H (k + 3) (.ref a) (.ref b) := by
  obtain ⟨u, ks, a1, a2, a3, a4⟩ := ha
  obtain ⟨v, ls, b1, b2, b3, b4⟩ := hb
  refine .inr ⟨a, b, _, _, rfl, rfl, .inl ⟨a1, b1⟩, rfl, (by show 2 ≤ 1000; decide), fun j x y p q => ?_⟩
  have hf : ks.length ≤ 6 := by rw [← kys_len, a4]; exact hv.few
  have hp : ∀ p ∈ ks, p.2.length ≤ 1000 := fun p hp => by
    have hm : p.2 ∈ s.2 := by rw [← a4]; exact List.mem_map.mpr ⟨p, hp, rfl⟩
    have := asc_len (hv.sets.asc _ hm) (hv.sets.rg _ hm)
    have := hv.hi
    omega
  match j, p, q with
  | 0, p, q =>
    rw [← Option.some.inj p, ← Option.some.inj q]
    exact al_int s.1 (k + 2)
  | 1, p, q =>
    rw [← Option.some.inj p, ← Option.some.inj q]
    exact al_TT k a2 b2 a3 b3 (a4.trans b4.symm) (by omega) hp
theorem name_valid {n : Nat} {s : Sy} (hv : Valid n s) : Valid n (nameOf n s) := by
  obtain ⟨o, ho, e⟩ := name_mem n s
  rw [← e]
  exact turn_valid ho hv
section
variable {P : Program} {w : World} {K : PySem.W.Frag} {mg : Str → Option Value} {base : Heap}
abbrev CSystem (P : Program) (w : World) (K : PySem.W.Frag) (mg : Str → Option Value) (base : Heap) : Prop := Can P w K mg base 4 "_law_system" ["_law_row", "_law_most"] (spSystem K)
abbrev COrder (P : Program) (w : World) (K : PySem.W.Frag) (mg : Str → Option Value) (base : Heap) : Prop := Can P w K mg base 2 "_law_order" ["_law_row", "_law_many"] (spOrder K)
abbrev CLRen (P : Program) (w : World) (K : PySem.W.Frag) (mg : Str → Option Value) (base : Heap) : Prop := Can P w K mg base 1 "_law_renamed" ["_law_system_here", "_law_order_here"] spTurn
abbrev CAlike (P : Program) (w : World) (K : PySem.W.Frag) (mg : Str → Option Value) (base : Heap) : Prop := Can P w K mg base 5 "_law_alike" ["_law_found", "_law_due"] (spA 5)
abbrev CLOrds (P : Program) (w : World) (K : PySem.W.Frag) (mg : Str → Option Value) (base : Heap) : Prop := Can P w K mg base 1 "_law_orders" ["_law_many"] spOrds
abbrev CRenamed (P : Program) (w : World) (K : PySem.W.Frag) (mg : Str → Option Value) (base : Heap) : Prop := Can P w K mg base 5 "renamed" ["system", "order"] spTurn
abbrev CLeastName (P : Program) (w : World) (K : PySem.W.Frag) (mg : Str → Option Value) (base : Heap) : Prop := Can P w K mg base 6 "least_name" ["system"] spName
abbrev CKind (P : Program) (w : World) (K : PySem.W.Frag) (mg : Str → Option Value) (base : Heap) : Prop := Can P w K mg base 5 "same_kind" ["one", "other"] spKind
def namesComp : Expr := asgE ((defBody sLaw).getD 6 (.Pass ⟨0, 0, 0, 0⟩))
/-! ### the law -/
def spLaw (K : PySem.W.Frag) : Sp := fun vs H Q _ => ∃ (a : Addr) (ns : List Int), vs = [.ref a] ∧ SqL K H a (ns.map V.int) ∧ ns.length ≤ 63 ∧ ∀ H', Q (.bl true) H'
theorem ok_law {f : Addr} {fd : FuncData} (F : Fun K "law" "law" sLaw f fd) (T : Glb mg) (C1 : CTaken P w K mg base) (C2 : CPick P w K mg base) (C4 : CSystem P w K mg base) (C5 : COrder P w K mg base) (C6 : CLRen P w K mg base) (C7 : CAlike P w K mg base)
    (C8 : CLOrds P w K mg base) (C9 : CRenamed P w K mg base) (Ca : CLeastName P w K mg base) (Cb : CKind P w K mg base) : FnOk P w K mg base CX0 7 f fd ["_law_script"] (spLaw K) := by
  refine F.ok scLaw (fun vs H Q E h => ?_) (fun cdv A outer s H vs Q E hr h => ?_)
  · obtain ⟨a, ns, rfl, _⟩ := h
    rfl
  · obtain ⟨a, ns, rfl, hsq, _, q⟩ := h
    obtain ⟨f1, fd1, G1, m1, k1, b1⟩ := C1.ex
    obtain ⟨f2, fd2, G2, m2, k2, b2⟩ := C2.ex
    obtain ⟨f4, fd4, G4, m4, k4, b4⟩ := C4.ex
    obtain ⟨f5, fd5, G5, m5, k5, b5⟩ := C5.ex
    obtain ⟨f6, fd6, G6, m6, k6, b6⟩ := C6.ex
    obtain ⟨f7, fd7, G7, m7, k7, b7⟩ := C7.ex
    obtain ⟨f8, fd8, G8, m8, k8, b8⟩ := C8.ex
    obtain ⟨f9, fd9, G9, m9, k9, b9⟩ := C9.ex
    obtain ⟨fa, fda, Ga, ma, ka, ba⟩ := Ca.ex
    obtain ⟨fb, fdb, Gb, mb, kb, bb⟩ := Cb.ex
    have hr1 : Room 1 _ := hr.mono (by decide)
    have hr2 : Room 2 _ := hr.mono (by decide)
    have hr4 : Room 4 _ := hr.mono (by decide)
    have hr5 : Room 5 _ := hr.mono (by decide)
    have hu := room hr
    refine ⟨_, pss_cons (ps_set (i := 1) scLaw.nd rfl (.inl rfl) (pe_lst (pa_cons (pv 0) (pa_cons pe_int (pa_cons pe_int (pa_cons pe_int pa_nil))))))
      (pss_cons (ps_set (i := 2) scLaw.nd rfl (.inl rfl) (pe_call G4 hr4 (by rfl) m4 k4 b4 .nil pass0 (pa_cons (pv 1) (pa_cons (pe_call G2 hr2 (by rfl) m2 k2 b2 .nil pass0 (pa_cons (pv 1) (pa_cons (pe_lst (pa_cons pe_int (pa_cons pe_int (pa_cons pe_int pa_nil)))) pa_nil))) pa_nil))))
      (pss_cons (ps_set (i := 3) scLaw.nd rfl (.inl rfl) (pe_call G5 hr2 (by rfl) m5 k5 b5 .nil pass0 (pa_cons (pv 1) (pa_cons (pe_ix (ixT K) (pv 2) pe_int (fun _ _ => rfl)) pa_nil))))
      (pss_cons (ps_set (i := 4) scLaw.nd rfl (.inl rfl) (pe_call G6 hr1 (by rfl) m6 k6 b6 .nil pass0 (pa_cons (pv 2) (pa_cons (pv 3) pa_nil))))
      (pss_cons (ps_if (pt_not (pt_val (pe_call G7 hr5 (by rfl) m7 k7 b7 .nil pass0 (pa_cons (pe_call G9 hr5 (by rfl) m9 k9 b9 .nil pass0 (pa_cons (pv 2) (pa_cons (pv 3) pa_nil))) (pa_cons (pv 4) pa_nil))))) (pss_one (ps_ret pe_bl)) pss_nil)
      (pss_cons (ps_if (pt_cmpR op_eq (pe_call G1 hr1 (by rfl) m1 k1 b1 .nil pass0 (pa_cons (pv 1) (pa_cons pe_int pa_nil))) pe_int (nomark _))
        (pss_one (ps_set (i := 4) scLaw.nd rfl (.inl rfl) (pe_call G4 hr4 (by rfl) m4 k4 b4 .nil pass0 (pa_cons (pv 1) (pa_cons pe_int pa_nil))))) pss_nil)
      (pss_cons (ps_setLc (i := 5) (own := [("_law_some", 7)]) (g := gName 7) (by rfl) scLaw.nd rfl rfl (sw_true rfl rfl rfl (by decide +kernel)) (piL K (pe_lst (pa_cons (pv 2) (pa_cons (pv 4) pa_nil))))
          (blkOk_by (own := [("_law_some", 7)]) (N := ["_law_script", "_law_row", "_law_one", "_law_order_here", "_law_other", "_law_names", "_law_found", "_law_some", "_law_turn"]) (sc := defScope sLaw) (by decide +kernel))
          (fun _ _ _ _ _ => pg_name (i := 7) scLaw.nd rfl (Or.inr rfl)) (fun _ _ _ _ _ => pts_nil)
          (fun _ _ _ _ _ => pe_callB (cMinS K hu) (by rfl) T.min (by decide +kernel) (pa_cons (pe_lc (own := [("_law_turn", 8)]) (g := gName 8) (by rfl) scLaw.nd (piL K (pe_call G8 hr1 (by rfl) m8 k8 b8 .nil pass0 (pa_cons (pe_ix (ixT K) (pv 7) pe_int (fun _ _ => rfl)) pa_nil)))
            (blkOk_by (own := [("_law_turn", 8)]) (N := ["_law_script", "_law_row", "_law_one", "_law_order_here", "_law_other", "_law_names", "_law_found", "_law_some", "_law_turn"]) (sc := rel (lcScope namesComp) (defScope sLaw)) (by decide +kernel))
            (fun _ _ _ _ _ => pg_name (i := 8) scLaw.nd rfl (Or.inl rfl)) (fun _ _ _ _ _ => pts_nil) (fun _ _ _ _ _ => pe_call G6 hr1 (by rfl) m6 k6 b6 .nil pass0 (pa_cons (pv 7) (pa_cons (pv 8) pa_nil)))) pa_nil)))
      (pss_cons (ps_if (pt_not (pt_val (pe_call G7 hr5 (by rfl) m7 k7 b7 .nil pass0 (pa_cons (pe_lst (pa_cons (pe_call Ga hr (by rfl) ma ka ba .nil pass0 (pa_cons (pv 2) pa_nil)) (pa_cons (pe_call Ga hr (by rfl) ma ka ba .nil pass0 (pa_cons (pv 4) pa_nil)) pa_nil))) (pa_cons (pv 5) pa_nil))))) (pss_one (ps_ret pe_bl)) pss_nil)
      (pss_cons (ps_set (i := 6) scLaw.nd rfl (.inl rfl) (pe_call Gb hr5 (by rfl) mb kb bb .nil pass0 (pa_cons (pv 2) (pa_cons (pv 4) pa_nil))))
      (pss_cons (ps_if (pt_cmpR op_ne (pe_cmpR op_isN (pv 6) pe_non (nomark _)) (pe_cmpR (oNeD K hu) (pe_ix (ixL K) (pv 5) pe_int (fun _ _ => rfl)) (pe_ix (ixL K) (pv 5) pe_int (fun _ _ => rfl)) (nomark _)) (nomark _)) (pss_one (ps_ret pe_bl)) pss_nil)
      (pss_cons (ps_if (pt_cmpR op_isN (pv 6) pe_non (nomark _)) (pss_one (ps_ret pe_bl)) pss_nil)
      (pss_one (ps_ret (pe_and (pe_callB (cIsi K) (by rfl) T.isi (by decide +kernel) (pa_cons (pv 6) (pa_cons (pe_bltn (v := .ty "tuple") (by rfl) T.tuple (by decide +kernel) rfl) pa_nil)))
        (pe_and (pe_cmpR (oEqD K hu) (pe_callB (cSrtIT K) (by rfl) T.sorted (by decide +kernel) (pa_cons (pv 6) pa_nil)) (pe_listRg rfl (by rfl) T.list (prg_1 (by rfl) T.range (pe_ix (ixT K) (pv 2) pe_int (fun _ _ => rfl)))) (nomark _))
        (pe_one (pe_cmpR (oEqD K hu) (pe_call G6 hr1 (by rfl) m6 k6 b6 .nil pass0 (pa_cons (pv 2) (pa_cons (pv 6) pa_nil))) (pv 4) (nomark _))))))))))))))))), ?_⟩
    -- row = [script, 0, 4008, 0]
    refine ⟨_, rfl, (by show 4 ≤ sizeLine; decide), fun r hrn => ?_⟩
    have R0 : RowOk K (upd H r (.lst [.ref a, .int 0, .int 4008, .int 0])) r a ns := by
      refine ⟨⟨0, 4008, 0, upd_same, by decide, by decide, by decide⟩, fun H' B => ?_⟩
      rcases hsq with (h | ⟨o, h⟩) | h
      · exact .inl (.inl (B _ _ (by rw [upd_ne (ne_of_none h hrn)]; exact h) (ne_of_none h hrn)))
      · exact .inl (.inr ⟨o, B _ _ (by rw [upd_ne (ne_of_none h hrn)]; exact h) (ne_of_none h hrn)⟩)
      · exact .inr h
    -- one
    refine ⟨_, rfl, _, rfl, (by show 3 ≤ sizeLine; decide), fun l2 n2 => ?_⟩
    have S2 : Same (upd H r (.lst [.ref a, .int 0, .int 4008, .int 0])) (upd (upd H r (.lst [.ref a, .int 0, .int 4008, .int 0])) l2 (.lst [.int 3, .int 4, .int 5])) := same_new n2 _
    refine ⟨r, a, l2, ns, [3, 4, 5], rfl, R0.mono S2, upd_same, by decide, by decide, fun c H2 hc B2 R2 => ?_⟩
    have hc' : 1 ≤ c ∧ c ≤ 5 := by
      simp only [List.mem_cons, List.not_mem_nil, or_false] at hc
      omega
    refine ⟨r, a, ns, c, rfl, R2, hc'.1, hc'.2, fun n t sy H3 B3 R3 hS3 hv => ?_⟩
    have em : sy.1 = (n : Int) := hv.many
    obtain ⟨u3, ks3, ht3, _⟩ := id hS3
    -- order
    refine ⟨_, rfl, _, rfl, t, _, 0, _, rfl, rfl, SqT.of ht3, atI_nat (j := 0) rfl, r, a, ns, n, by rw [em]; rfl, R3, hv.hi, fun o os H4 hO B4 R4 ho => ?_⟩
    have hS4 := sy_but R3 B4 hS3
    -- other
    refine ⟨_, rfl, _, rfl, n, t, o, sy, os, rfl, hv, ho, hS4, hO, fun t2 H5 S5 h5 => ?_⟩
    -- renamed
    refine ⟨_, rfl, _, rfl, n, t, o, sy, os, rfl, hv, S5 _ _ ho, hS4.mono S5, hO, fun r6 H6 S6 h6 => ?_⟩
    refine ⟨_, rfl, _, _, rfl, al_S 1 h6 (h5.mono S6) (turn_valid hO hv), fun H7 S7 => ⟨_, rfl, iteF ?_⟩⟩
    have S57 := S6.trans S7
    have hS7 := (hS4.mono S5).mono S57
    have R7 := (R4.mono S5).mono S57
    -- another
    refine ⟨_, rfl, r, a, ns, 2, rfl, R7, by decide, by decide, fun v8 H8 _ _ B8 R8 => ⟨rfl, _, rfl, ite2 (fun c8 => ?_) (fun c8 => ?_)⟩⟩
    · refine ⟨_, rfl, r, a, ns, 4, rfl, R8, by decide, by decide, fun m t2 s2 H9 B9 R9 h2 hv2 => ?_⟩
      have hS9 := sy_but R8 B9 (sy_but R7 B8 hS7)
      -- the names
      refine ⟨_, rfl, _, rfl, (by show 2 ≤ sizeLine; decide), fun l10 n10 => ?_⟩
      have S10 : Same H9 (upd H9 l10 (.lst [.ref t, .ref t2])) := same_new n10 _
      have hl10 : (upd H9 l10 (.lst [.ref t, .ref t2])) l10 = some (.lst [.ref t, .ref t2]) := upd_same
      refine ⟨l10, rfl, ⟨_, SqL.of hl10⟩, fun D hD => ?_⟩
      refine lc_list (K := K) (a := l10) (xs := [.ref t, .ref t2]) (fun i H' => Same (upd H9 l10 (.lst [.ref t, .ref t2])) H' ∧ ∃ ss : List (Addr × Sy), H' D = some (.lst (refS ss)) ∧ (∀ p ∈ ss, SyAt H' p.1 p.2) ∧ ss.map (·.2) = [nameOf n sy, nameOf m s2].take i)
        ⟨same_new hD _, [], upd_same, (fun p hp => by cases hp), rfl⟩ (fun i H' _ hp => SqL.of (hp.1 _ _ hl10)) ?_ ?_
      · rintro i x H11 hx ⟨S11, ss, hD11, hss, e11⟩
        have hb : ∃ (k : Nat) (b : Addr) (z : Sy), x = .ref b ∧ SyAt H11 b z ∧ Valid k z ∧ ([nameOf n sy, nameOf m s2] : List Sy)[i]? = some (nameOf k z) := by
          match i, hx with
          | 0, hx => exact ⟨n, t, sy, (Option.some.inj hx).symm, (hS9.mono S10).mono S11, hv, rfl⟩
          | 1, hx => exact ⟨m, t2, s2, (Option.some.inj hx).symm, (h2.mono S10).mono S11, hv2, rfl⟩
        obtain ⟨k, b, z, rfl, hbz, hkz, hat⟩ := hb
        have hi2 : i < 2 := lt_of_at hat
        obtain ⟨ub, ksb, htb, _⟩ := id hbz
        have ek : z.1 = (k : Int) := hkz.many
        refine ⟨rfl, yesT ?_⟩
        refine ⟨_, rfl, b, _, 0, _, rfl, rfl, SqT.of htb, atI_nat (j := 0) rfl, k, by rw [ek]; rfl, hkz.hi, fun l12 ks H12 S12 hl12 hT12 ek12 => ?_⟩
        have hks : ks.length ≤ 3125 := by rw [← kys_len, ek12]; exact ords_small hkz.hi hkz.hi
        have hb12 := hbz.mono S12
        refine ⟨l12, rfl, ⟨_, SqL.of hl12⟩, fun D2 hD2 => ?_⟩
        refine lc_list (K := K) (a := l12) (xs := refs ks) (fun i H' => Same H12 H' ∧ ∃ ss : List (Addr × Sy), H' D2 = some (.lst (refS ss)) ∧ (∀ p ∈ ss, SyAt H' p.1 p.2) ∧ ss.map (·.2) = (ks.take i).map fun p => turn z p.2)
          ⟨same_new hD2 _, [], upd_same, (fun p hp => by cases hp), rfl⟩ (fun i H' _ hq => SqL.of (hq.1 _ _ hl12)) ?_ ?_
        · rintro i2 x H13 hx2 ⟨S13, ss2, hD13, hss2, e13⟩
          obtain ⟨p, hp, rfl⟩ := at_map hx2
          have hpm := List.mem_of_getElem? hp
          have hil := lt_of_at hp
          have hO2 : IsOrd k p.2 := mem_all.mp (by rw [← ek12]; exact List.mem_map.mpr ⟨p, hpm, rfl⟩)
          refine ⟨rfl, yesT ?_⟩
          refine ⟨_, rfl, _, rfl, k, b, p.1, z, p.2, rfl, hkz, S13 _ _ (hT12 p hpm), hb12.mono S13, hO2, fun r14 H14 S14 hr14 => ?_⟩
          have hD14 := S14 _ _ hD13
          refine ⟨_, hD14, ?_, ?_, ss2 ++ [(r14, turn z p.2)], ?_, ?_, ?_⟩
          · have := congrArg List.length e13
            rw [List.length_map, List.length_map, List.length_take] at this
            rw [refS_len]
            exact sline (by omega)
          · intro b' o' e
            rw [upd_ne (ne_of_none e hD2)]
            exact S14 _ _ (S13 b' o' e)
          · rw [upd_same, refS_app]
          · intro y hy
            rcases List.mem_append.mp hy with h | h
            · exact sy_upd ((hss2 y h).mono S14) hD14
            · rw [List.mem_singleton.mp h]
              exact sy_upd hr14 hD14
          · rw [List.map_append, e13, map_take (fun p : Addr × List Int => turn z p.2) hp]
            rfl
        · rintro H13 ⟨S13, ss2, hD13, hss2, e13⟩
          rw [take_all (by rw [refs_len]; exact Nat.le_refl _)] at e13
          have e4 : ss2.map (·.2) = (ords k k).map (turn z) := by rw [e13, ← ek12, List.map_map]; rfl
          have en : nameOf k z = least (ss2.map (·.2)) := by rw [e4]; rfl
          cases e5 : ss2.map (·.2) with
          | nil => exact absurd (e4.symm.trans e5) (name_ne k z)
          | cons y ys =>
            rw [e5] at en
            refine ⟨D2, ss2, y, ys, rfl, SqL.of hD13, (fun p hp => dp_S (hss2 p hp)), e5, fun p hp ep => ?_⟩
            have hpn : SyAt H13 p.1 (nameOf k z) := by
              have := hss2 p hp
              rw [ep] at this
              rw [en]
              exact this
            have SS := S12.trans S13
            have hDx := SS _ _ hD11
            refine ⟨_, hDx, ?_, ?_, ss ++ [(p.1, nameOf k z)], ?_, ?_, ?_⟩
            · have := congrArg List.length e11
              rw [List.length_map, List.length_take] at this
              rw [refS_len]
              exact small1000 (by omega)
            · intro b' o' e
              rw [upd_ne (ne_of_none e hD)]
              exact SS _ _ (S11 b' o' e)
            · rw [upd_same, refS_app]
            · intro y hy
              rcases List.mem_append.mp hy with h | h
              · exact sy_upd ((hss y h).mono SS) hDx
              · rw [List.mem_singleton.mp h]
                exact sy_upd hpn hDx
            · rw [List.map_append, e11, List.take_succ, hat]
              rfl
      · rintro H11 ⟨S11, ss, hD11, hss, e11⟩
        have e12 : ss.map (·.2) = [nameOf n sy, nameOf m s2] := e11
        obtain ⟨p1, p2, rfl⟩ : ∃ p1 p2, ss = [p1, p2] := by
          have := congrArg List.length e12
          rw [List.length_map] at this
          match ss, this with
          | [p1, p2], _ => exact ⟨p1, p2, rfl⟩
        have ep1 : p1.2 = nameOf n sy := by injection e12
        have ep2 : p2.2 = nameOf m s2 := by
          have h := congrArg List.tail e12
          injection h
        have q1 := hss p1 List.mem_cons_self
        have q2 := hss p2 (List.mem_cons_of_mem _ List.mem_cons_self)
        rw [ep1] at q1
        rw [ep2] at q2
        have hS11 := (hS9.mono S10).mono S11
        have h211 := (h2.mono S10).mono S11
        -- the program's least names
        refine ⟨_, rfl, n, t, sy, rfl, hS11, hv, fun ra Ha Sa ha => ?_⟩
        refine ⟨_, rfl, m, t2, s2, rfl, h211.mono Sa, hv2, fun rb Hb Sb hb => ?_⟩
        refine ⟨(by show 2 ≤ sizeLine; decide), fun lz nz => ?_⟩
        have Sz : Same Hb (upd Hb lz (.lst [.ref ra, .ref rb])) := same_new nz _
        have Saz := Sa.trans (Sb.trans Sz)
        refine ⟨_, rfl, _, _, rfl, .inr ⟨lz, D, _, _, rfl, rfl, .inr ⟨upd_same, Saz _ _ hD11⟩, rfl, (by show 2 ≤ 1000; decide), fun j x y p q => ?_⟩, fun Hc Sc => ⟨_, rfl, iteF ?_⟩⟩
        · match j, p, q with
          | 0, p, q =>
            rw [← Option.some.inj p, ← Option.some.inj q]
            exact al_S 0 ((ha.mono Sb).mono Sz) (q1.mono Saz) (name_valid hv)
          | 1, p, q =>
            rw [← Option.some.inj p, ← Option.some.inj q]
            exact al_S 0 (hb.mono Sz) (q2.mono Saz) (name_valid hv2)
        have Sac := Saz.trans Sc
        have hD12 := Sac _ _ hD11
        -- same_kind
        refine ⟨_, rfl, _, rfl, n, m, t, t2, sy, s2, rfl, hS11.mono Sac, h211.mono Sac, hv, hv2, fun v Hk Sk hk => ?_⟩
        have hDk := Sk _ _ hD12
        have Sak := Sac.trans Sk
        have g0 : atI (refS [p1, p2]) 0 = some (V.ref p1.1) := atI_nat (j := 0) rfl
        have g1 : atI (refS [p1, p2]) 1 = some (V.ref p2.1) := atI_nat (j := 1) rfl
        refine ⟨_, rfl, rfl, _, rfl, D, _, 0, _, rfl, rfl, SqL.of hDk, g0, _, rfl, D, _, 1, _, rfl, rfl, SqL.of hDk, g1, dS (nameOf n sy), dS (nameOf m s2), dp_S (q1.mono Sak), dp_S (q2.mono Sak), shp_S _, shp_S _, rfl, _, rfl, ?_⟩
        rw [eqv_S]
        rcases hk with ⟨rfl, hne⟩ | ⟨ok, osk, rfl, hok, hOk, eturn, ename⟩
        · rw [decide_eq_true (rfl : V.non = V.non), decide_eq_false hne]
          refine iteF ⟨_, rfl, rfl, _, rfl, ?_⟩
          rw [decide_eq_true (rfl : V.non = V.non)]
          exact iteT (q _)
        · rw [decide_eq_false (show ¬ V.ref ok = V.non from fun e => by cases e), decide_eq_true ename]
          refine iteF ⟨_, rfl, rfl, _, rfl, ?_⟩
          rw [decide_eq_false (show ¬ V.ref ok = V.non from fun e => by cases e)]
          refine iteF ?_
          refine ⟨_, rfl, _, _, _, _, true, rfl, .ty _, .base (.tup hok), kit_ty (by decide +kernel), _, rfl, iteT ?_⟩
          have hSk := hS11.mono Sak
          obtain ⟨uk, ksk, htk, _⟩ := id hSk
          refine ⟨_, rfl, ok, osk, rfl, SqT.of hok, by rw [hOk.len]; have := hv.hi; omega, fun ns15 g15 pm15 so15 n15 => ?_⟩
          have S15 := same_new n15 (.lst (ns15.map V.int))
          have hrg : RgOk 0 sy.1 := by
            have := hv.hi
            rw [em]
            exact RgOk.of_le (by omega) (by omega) (by omega) (by omega)
          refine ⟨_, rfl, t, _, 0, _, rfl, rfl, SqT.of (S15 _ _ htk), atI_nat (j := 0) rfl, sy.1, rfl, hrg, fun g16 n16 => ?_⟩
          have S16 := same_new n16 (.lst (rgV 0 sy.1))
          have e15 : ns15 = rng n := asc_rng n (pm15.trans hOk.perm) so15
          refine ⟨dL ns15, dL (rng n), dp_L (S16 _ _ upd_same), dp_L (by rw [upd_same, em, rgV_rng]), shp_L _, shp_L _, _, rfl, ?_⟩
          rw [eqv_L, decide_eq_true e15]
          refine iteT ?_
          have S56 := S15.trans S16
          refine ⟨_, rfl, _, rfl, n, t, ok, sy, osk, rfl, hv, S56 _ _ hok, hSk.mono S56, hOk, fun r17 H17 S17 h17 => ?_⟩
          refine ⟨_, rfl, dS (turn sy osk), dS s2, dp_S h17, dp_S (((h211.mono Sak).mono S56).mono S17), shp_S _, shp_S _, ?_⟩
          rw [eqv_S, decide_eq_true eturn]
          exact q _
    · have h2 := sy_but R7 B8 (h5.mono S57)
      have hv2 := turn_valid hO hv
      have hS9 := sy_but R7 B8 hS7
      -- the names
      refine ⟨_, rfl, _, rfl, (by show 2 ≤ sizeLine; decide), fun l10 n10 => ?_⟩
      have S10 : Same H8 (upd H8 l10 (.lst [.ref t, .ref t2])) := same_new n10 _
      have hl10 : (upd H8 l10 (.lst [.ref t, .ref t2])) l10 = some (.lst [.ref t, .ref t2]) := upd_same
      refine ⟨l10, rfl, ⟨_, SqL.of hl10⟩, fun D hD => ?_⟩
      refine lc_list (K := K) (a := l10) (xs := [.ref t, .ref t2]) (fun i H' => Same (upd H8 l10 (.lst [.ref t, .ref t2])) H' ∧ ∃ ss : List (Addr × Sy), H' D = some (.lst (refS ss)) ∧ (∀ p ∈ ss, SyAt H' p.1 p.2) ∧ ss.map (·.2) = [nameOf n sy, nameOf n (turn sy os)].take i)
        ⟨same_new hD _, [], upd_same, (fun p hp => by cases hp), rfl⟩ (fun i H' _ hp => SqL.of (hp.1 _ _ hl10)) ?_ ?_
      · rintro i x H11 hx ⟨S11, ss, hD11, hss, e11⟩
        have hb : ∃ (k : Nat) (b : Addr) (z : Sy), x = .ref b ∧ SyAt H11 b z ∧ Valid k z ∧ ([nameOf n sy, nameOf n (turn sy os)] : List Sy)[i]? = some (nameOf k z) := by
          match i, hx with
          | 0, hx => exact ⟨n, t, sy, (Option.some.inj hx).symm, (hS9.mono S10).mono S11, hv, rfl⟩
          | 1, hx => exact ⟨n, t2, (turn sy os), (Option.some.inj hx).symm, (h2.mono S10).mono S11, hv2, rfl⟩
        obtain ⟨k, b, z, rfl, hbz, hkz, hat⟩ := hb
        have hi2 : i < 2 := lt_of_at hat
        obtain ⟨ub, ksb, htb, _⟩ := id hbz
        have ek : z.1 = (k : Int) := hkz.many
        refine ⟨rfl, yesT ?_⟩
        refine ⟨_, rfl, b, _, 0, _, rfl, rfl, SqT.of htb, atI_nat (j := 0) rfl, k, by rw [ek]; rfl, hkz.hi, fun l12 ks H12 S12 hl12 hT12 ek12 => ?_⟩
        have hks : ks.length ≤ 3125 := by rw [← kys_len, ek12]; exact ords_small hkz.hi hkz.hi
        have hb12 := hbz.mono S12
        refine ⟨l12, rfl, ⟨_, SqL.of hl12⟩, fun D2 hD2 => ?_⟩
        refine lc_list (K := K) (a := l12) (xs := refs ks) (fun i H' => Same H12 H' ∧ ∃ ss : List (Addr × Sy), H' D2 = some (.lst (refS ss)) ∧ (∀ p ∈ ss, SyAt H' p.1 p.2) ∧ ss.map (·.2) = (ks.take i).map fun p => turn z p.2)
          ⟨same_new hD2 _, [], upd_same, (fun p hp => by cases hp), rfl⟩ (fun i H' _ hq => SqL.of (hq.1 _ _ hl12)) ?_ ?_
        · rintro i2 x H13 hx2 ⟨S13, ss2, hD13, hss2, e13⟩
          obtain ⟨p, hp, rfl⟩ := at_map hx2
          have hpm := List.mem_of_getElem? hp
          have hil := lt_of_at hp
          have hO2 : IsOrd k p.2 := mem_all.mp (by rw [← ek12]; exact List.mem_map.mpr ⟨p, hpm, rfl⟩)
          refine ⟨rfl, yesT ?_⟩
          refine ⟨_, rfl, _, rfl, k, b, p.1, z, p.2, rfl, hkz, S13 _ _ (hT12 p hpm), hb12.mono S13, hO2, fun r14 H14 S14 hr14 => ?_⟩
          have hD14 := S14 _ _ hD13
          refine ⟨_, hD14, ?_, ?_, ss2 ++ [(r14, turn z p.2)], ?_, ?_, ?_⟩
          · have := congrArg List.length e13
            rw [List.length_map, List.length_map, List.length_take] at this
            rw [refS_len]
            exact sline (by omega)
          · intro b' o' e
            rw [upd_ne (ne_of_none e hD2)]
            exact S14 _ _ (S13 b' o' e)
          · rw [upd_same, refS_app]
          · intro y hy
            rcases List.mem_append.mp hy with h | h
            · exact sy_upd ((hss2 y h).mono S14) hD14
            · rw [List.mem_singleton.mp h]
              exact sy_upd hr14 hD14
          · rw [List.map_append, e13, map_take (fun p : Addr × List Int => turn z p.2) hp]
            rfl
        · rintro H13 ⟨S13, ss2, hD13, hss2, e13⟩
          rw [take_all (by rw [refs_len]; exact Nat.le_refl _)] at e13
          have e4 : ss2.map (·.2) = (ords k k).map (turn z) := by rw [e13, ← ek12, List.map_map]; rfl
          have en : nameOf k z = least (ss2.map (·.2)) := by rw [e4]; rfl
          cases e5 : ss2.map (·.2) with
          | nil => exact absurd (e4.symm.trans e5) (name_ne k z)
          | cons y ys =>
            rw [e5] at en
            refine ⟨D2, ss2, y, ys, rfl, SqL.of hD13, (fun p hp => dp_S (hss2 p hp)), e5, fun p hp ep => ?_⟩
            have hpn : SyAt H13 p.1 (nameOf k z) := by
              have := hss2 p hp
              rw [ep] at this
              rw [en]
              exact this
            have SS := S12.trans S13
            have hDx := SS _ _ hD11
            refine ⟨_, hDx, ?_, ?_, ss ++ [(p.1, nameOf k z)], ?_, ?_, ?_⟩
            · have := congrArg List.length e11
              rw [List.length_map, List.length_take] at this
              rw [refS_len]
              exact small1000 (by omega)
            · intro b' o' e
              rw [upd_ne (ne_of_none e hD)]
              exact SS _ _ (S11 b' o' e)
            · rw [upd_same, refS_app]
            · intro y hy
              rcases List.mem_append.mp hy with h | h
              · exact sy_upd ((hss y h).mono SS) hDx
              · rw [List.mem_singleton.mp h]
                exact sy_upd hpn hDx
            · rw [List.map_append, e11, List.take_succ, hat]
              rfl
      · rintro H11 ⟨S11, ss, hD11, hss, e11⟩
        have e12 : ss.map (·.2) = [nameOf n sy, nameOf n (turn sy os)] := e11
        obtain ⟨p1, p2, rfl⟩ : ∃ p1 p2, ss = [p1, p2] := by
          have := congrArg List.length e12
          rw [List.length_map] at this
          match ss, this with
          | [p1, p2], _ => exact ⟨p1, p2, rfl⟩
        have ep1 : p1.2 = nameOf n sy := by injection e12
        have ep2 : p2.2 = nameOf n (turn sy os) := by
          have h := congrArg List.tail e12
          injection h
        have q1 := hss p1 List.mem_cons_self
        have q2 := hss p2 (List.mem_cons_of_mem _ List.mem_cons_self)
        rw [ep1] at q1
        rw [ep2] at q2
        have hS11 := (hS9.mono S10).mono S11
        have h211 := (h2.mono S10).mono S11
        -- the program's least names
        refine ⟨_, rfl, n, t, sy, rfl, hS11, hv, fun ra Ha Sa ha => ?_⟩
        refine ⟨_, rfl, n, t2, (turn sy os), rfl, h211.mono Sa, hv2, fun rb Hb Sb hb => ?_⟩
        refine ⟨(by show 2 ≤ sizeLine; decide), fun lz nz => ?_⟩
        have Sz : Same Hb (upd Hb lz (.lst [.ref ra, .ref rb])) := same_new nz _
        have Saz := Sa.trans (Sb.trans Sz)
        refine ⟨_, rfl, _, _, rfl, .inr ⟨lz, D, _, _, rfl, rfl, .inr ⟨upd_same, Saz _ _ hD11⟩, rfl, (by show 2 ≤ 1000; decide), fun j x y p q => ?_⟩, fun Hc Sc => ⟨_, rfl, iteF ?_⟩⟩
        · match j, p, q with
          | 0, p, q =>
            rw [← Option.some.inj p, ← Option.some.inj q]
            exact al_S 0 ((ha.mono Sb).mono Sz) (q1.mono Saz) (name_valid hv)
          | 1, p, q =>
            rw [← Option.some.inj p, ← Option.some.inj q]
            exact al_S 0 (hb.mono Sz) (q2.mono Saz) (name_valid hv2)
        have Sac := Saz.trans Sc
        have hD12 := Sac _ _ hD11
        -- same_kind
        refine ⟨_, rfl, _, rfl, n, n, t, t2, sy, (turn sy os), rfl, hS11.mono Sac, h211.mono Sac, hv, hv2, fun v Hk Sk hk => ?_⟩
        have hDk := Sk _ _ hD12
        have Sak := Sac.trans Sk
        have g0 : atI (refS [p1, p2]) 0 = some (V.ref p1.1) := atI_nat (j := 0) rfl
        have g1 : atI (refS [p1, p2]) 1 = some (V.ref p2.1) := atI_nat (j := 1) rfl
        refine ⟨_, rfl, rfl, _, rfl, D, _, 0, _, rfl, rfl, SqL.of hDk, g0, _, rfl, D, _, 1, _, rfl, rfl, SqL.of hDk, g1, dS (nameOf n sy), dS (nameOf n (turn sy os)), dp_S (q1.mono Sak), dp_S (q2.mono Sak), shp_S _, shp_S _, rfl, _, rfl, ?_⟩
        rw [eqv_S]
        rcases hk with ⟨rfl, hne⟩ | ⟨ok, osk, rfl, hok, hOk, eturn, ename⟩
        · rw [decide_eq_true (rfl : V.non = V.non), decide_eq_false hne]
          refine iteF ⟨_, rfl, rfl, _, rfl, ?_⟩
          rw [decide_eq_true (rfl : V.non = V.non)]
          exact iteT (q _)
        · rw [decide_eq_false (show ¬ V.ref ok = V.non from fun e => by cases e), decide_eq_true ename]
          refine iteF ⟨_, rfl, rfl, _, rfl, ?_⟩
          rw [decide_eq_false (show ¬ V.ref ok = V.non from fun e => by cases e)]
          refine iteF ?_
          refine ⟨_, rfl, _, _, _, _, true, rfl, .ty _, .base (.tup hok), kit_ty (by decide +kernel), _, rfl, iteT ?_⟩
          have hSk := hS11.mono Sak
          obtain ⟨uk, ksk, htk, _⟩ := id hSk
          refine ⟨_, rfl, ok, osk, rfl, SqT.of hok, by rw [hOk.len]; have := hv.hi; omega, fun ns15 g15 pm15 so15 n15 => ?_⟩
          have S15 := same_new n15 (.lst (ns15.map V.int))
          have hrg : RgOk 0 sy.1 := by
            have := hv.hi
            rw [em]
            exact RgOk.of_le (by omega) (by omega) (by omega) (by omega)
          refine ⟨_, rfl, t, _, 0, _, rfl, rfl, SqT.of (S15 _ _ htk), atI_nat (j := 0) rfl, sy.1, rfl, hrg, fun g16 n16 => ?_⟩
          have S16 := same_new n16 (.lst (rgV 0 sy.1))
          have e15 : ns15 = rng n := asc_rng n (pm15.trans hOk.perm) so15
          refine ⟨dL ns15, dL (rng n), dp_L (S16 _ _ upd_same), dp_L (by rw [upd_same, em, rgV_rng]), shp_L _, shp_L _, _, rfl, ?_⟩
          rw [eqv_L, decide_eq_true e15]
          refine iteT ?_
          have S56 := S15.trans S16
          refine ⟨_, rfl, _, rfl, n, t, ok, sy, osk, rfl, hv, S56 _ _ hok, hSk.mono S56, hOk, fun r17 H17 S17 h17 => ?_⟩
          refine ⟨_, rfl, dS (turn sy osk), dS (turn sy os), dp_S h17, dp_S (((h211.mono Sak).mono S56).mono S17), shp_S _, shp_S _, ?_⟩
          rw [eqv_S, decide_eq_true eturn]
          exact q _
end
end K8

namespace K8
open PySem L2
/-! ### the defs as the top has left them -/
structure Std (K : PySem.W.Frag) (name : Str) (st : Stmt) : Prop where
  ex : ∃ (f : Addr) (fd : FuncData), Fun K name name st f fd ∧ PySem.W.nsIn K mainGlobals name = some (some (.ref f))
theorem std_mk {K : PySem.W.Frag} {name : Str} {st : Stmt} {f : Addr} {od an : Option Addr} {sl : Array (Option Value)} {oc kV dc pm cd ct : Value} (a : PySem.W.nsIn K mainGlobals name = some (some (.ref f)))
    (l : K.lookup f = some ⟨oc, od, .func (PySem.W.fnOf name name (defArgs st) (defBody st) (defScope st) .none kV dc pm an cd ct), sl⟩) (c : PySem.W.codeIn K cd name = true) (k : PySem.W.keepIn K (.ref f) = true) : Std K name st :=
  ⟨⟨f, _, fun_mk l c k, a⟩⟩
/-- a def of the text, with how its arguments bind -/
structure Has (K : PySem.W.Frag) (mg : Str → Option Value) (name : Str) (st : Stmt) (ps : List Str) : Prop where
  ex : ∃ (f : Addr) (fd : FuncData), Fun K name name st f fd ∧ mg name = some (.ref f) ∧ Binds K fd ps []
section
variable {P : Program} {w : World} {K : PySem.W.Frag} {mg : Str → Option Value} {base : Heap} {h : Heap}
theorem can_of {name : Str} {st : Stmt} {ps : List Str} {k : Nat} {sp : Sp} (D : Has K mg name st ps) (ok : ∀ (f : Addr) (fd : FuncData), Fun K name name st f fd → mg name = some (.ref f) → Binds K fd ps [] → FnOk P w K mg base CX0 k f fd ps sp) : Can P w K mg base k name ps sp := by
  obtain ⟨f, fd, F, m, b⟩ := D.ex
  exact ⟨f, fd, ok f fd F m b, m, F.kp, b⟩
theorem has_In (X : K.In h) (G : h.Ns mainGlobals mg) (D : Std K "is_in" sIn) : Has K mg "is_in" sIn ["value", "least", "most"] := by
  obtain ⟨f, fd, F, a⟩ := D.ex
  exact ⟨f, fd, F, PySem.W.mg_of X G a, F.binds (ps := ["value", "least", "most"]) fun _ _ _ _ _ _ us hl => match us, hl with | [_, _, _], _ => rfl⟩
theorem has_Mask (X : K.In h) (G : h.Ns mainGlobals mg) (D : Std K "mask_of" sMask) : Has K mg "mask_of" sMask ["parts"] := by
  obtain ⟨f, fd, F, a⟩ := D.ex
  exact ⟨f, fd, F, PySem.W.mg_of X G a, F.binds (ps := ["parts"]) fun _ _ _ _ _ _ us hl => match us, hl with | [_], _ => rfl⟩
theorem has_Sets (X : K.In h) (G : h.Ns mainGlobals mg) (D : Std K "are_sets" sSets) : Has K mg "are_sets" sSets ["value", "many"] := by
  obtain ⟨f, fd, F, a⟩ := D.ex
  exact ⟨f, fd, F, PySem.W.mg_of X G a, F.binds (ps := ["value", "many"]) fun _ _ _ _ _ _ us hl => match us, hl with | [_, _], _ => rfl⟩
theorem has_IsSys (X : K.In h) (G : h.Ns mainGlobals mg) (D : Std K "is_system" sIsSys) : Has K mg "is_system" sIsSys ["value"] := by
  obtain ⟨f, fd, F, a⟩ := D.ex
  exact ⟨f, fd, F, PySem.W.mg_of X G a, F.binds (ps := ["value"]) fun _ _ _ _ _ _ us hl => match us, hl with | [_], _ => rfl⟩
theorem has_NeedSys (X : K.In h) (G : h.Ns mainGlobals mg) (D : Std K "need_system" sNeedSys) : Has K mg "need_system" sNeedSys ["system"] := by
  obtain ⟨f, fd, F, a⟩ := D.ex
  exact ⟨f, fd, F, PySem.W.mg_of X G a, F.binds (ps := ["system"]) fun _ _ _ _ _ _ us hl => match us, hl with | [_], _ => rfl⟩
theorem has_NeedOrd (X : K.In h) (G : h.Ns mainGlobals mg) (D : Std K "need_order" sNeedOrd) : Has K mg "need_order" sNeedOrd ["many", "order"] := by
  obtain ⟨f, fd, F, a⟩ := D.ex
  exact ⟨f, fd, F, PySem.W.mg_of X G a, F.binds (ps := ["many", "order"]) fun _ _ _ _ _ _ us hl => match us, hl with | [_, _], _ => rfl⟩
theorem has_Turned (X : K.In h) (G : h.Ns mainGlobals mg) (D : Std K "turned" sTurned) : Has K mg "turned" sTurned ["system", "order"] := by
  obtain ⟨f, fd, F, a⟩ := D.ex
  exact ⟨f, fd, F, PySem.W.mg_of X G a, F.binds (ps := ["system", "order"]) fun _ _ _ _ _ _ us hl => match us, hl with | [_, _], _ => rfl⟩
theorem has_Renamed (X : K.In h) (G : h.Ns mainGlobals mg) (D : Std K "renamed" sRenamed) : Has K mg "renamed" sRenamed ["system", "order"] := by
  obtain ⟨f, fd, F, a⟩ := D.ex
  exact ⟨f, fd, F, PySem.W.mg_of X G a, F.binds (ps := ["system", "order"]) fun _ _ _ _ _ _ us hl => match us, hl with | [_, _], _ => rfl⟩
theorem has_Orders (X : K.In h) (G : h.Ns mainGlobals mg) (D : Std K "orders_of" sOrders) : Has K mg "orders_of" sOrders ["many"] := by
  obtain ⟨f, fd, F, a⟩ := D.ex
  exact ⟨f, fd, F, PySem.W.mg_of X G a, F.binds (ps := ["many"]) fun _ _ _ _ _ _ us hl => match us, hl with | [_], _ => rfl⟩
theorem has_Small (X : K.In h) (G : h.Ns mainGlobals mg) (D : Std K "need_small" sNeedSmall) : Has K mg "need_small" sNeedSmall ["system"] := by
  obtain ⟨f, fd, F, a⟩ := D.ex
  exact ⟨f, fd, F, PySem.W.mg_of X G a, F.binds (ps := ["system"]) fun _ _ _ _ _ _ us hl => match us, hl with | [_], _ => rfl⟩
theorem has_LeastName (X : K.In h) (G : h.Ns mainGlobals mg) (D : Std K "least_name" sLeastName) : Has K mg "least_name" sLeastName ["system"] := by
  obtain ⟨f, fd, F, a⟩ := D.ex
  exact ⟨f, fd, F, PySem.W.mg_of X G a, F.binds (ps := ["system"]) fun _ _ _ _ _ _ us hl => match us, hl with | [_], _ => rfl⟩
theorem has_Kind (X : K.In h) (G : h.Ns mainGlobals mg) (D : Std K "same_kind" sSameKind) : Has K mg "same_kind" sSameKind ["one", "other"] := by
  obtain ⟨f, fd, F, a⟩ := D.ex
  exact ⟨f, fd, F, PySem.W.mg_of X G a, F.binds (ps := ["one", "other"]) fun _ _ _ _ _ _ us hl => match us, hl with | [_, _], _ => rfl⟩
theorem has_Taken (X : K.In h) (G : h.Ns mainGlobals mg) (D : Std K "_law_taken" sTaken) : Has K mg "_law_taken" sTaken ["_law_row", "_law_many"] := by
  obtain ⟨f, fd, F, a⟩ := D.ex
  exact ⟨f, fd, F, PySem.W.mg_of X G a, F.binds (ps := ["_law_row", "_law_many"]) fun _ _ _ _ _ _ us hl => match us, hl with | [_, _], _ => rfl⟩
theorem has_Pick (X : K.In h) (G : h.Ns mainGlobals mg) (D : Std K "_law_pick" sPick) : Has K mg "_law_pick" sPick ["_law_row", "_law_things"] := by
  obtain ⟨f, fd, F, a⟩ := D.ex
  exact ⟨f, fd, F, PySem.W.mg_of X G a, F.binds (ps := ["_law_row", "_law_things"]) fun _ _ _ _ _ _ us hl => match us, hl with | [_, _], _ => rfl⟩
theorem has_Some (X : K.In h) (G : h.Ns mainGlobals mg) (D : Std K "_law_some_set" sSome) : Has K mg "_law_some_set" sSome ["_law_row", "_law_many"] := by
  obtain ⟨f, fd, F, a⟩ := D.ex
  exact ⟨f, fd, F, PySem.W.mg_of X G a, F.binds (ps := ["_law_row", "_law_many"]) fun _ _ _ _ _ _ us hl => match us, hl with | [_, _], _ => rfl⟩
theorem has_Least (X : K.In h) (G : h.Ns mainGlobals mg) (D : Std K "_law_least" sLeastL) : Has K mg "_law_least" sLeastL ["_law_sets"] := by
  obtain ⟨f, fd, F, a⟩ := D.ex
  exact ⟨f, fd, F, PySem.W.mg_of X G a, F.binds (ps := ["_law_sets"]) fun _ _ _ _ _ _ us hl => match us, hl with | [_], _ => rfl⟩
theorem has_System (X : K.In h) (G : h.Ns mainGlobals mg) (D : Std K "_law_system" sSystem) : Has K mg "_law_system" sSystem ["_law_row", "_law_most"] := by
  obtain ⟨f, fd, F, a⟩ := D.ex
  exact ⟨f, fd, F, PySem.W.mg_of X G a, F.binds (ps := ["_law_row", "_law_most"]) fun _ _ _ _ _ _ us hl => match us, hl with | [_, _], _ => rfl⟩
theorem has_Order (X : K.In h) (G : h.Ns mainGlobals mg) (D : Std K "_law_order" sOrder) : Has K mg "_law_order" sOrder ["_law_row", "_law_many"] := by
  obtain ⟨f, fd, F, a⟩ := D.ex
  exact ⟨f, fd, F, PySem.W.mg_of X G a, F.binds (ps := ["_law_row", "_law_many"]) fun _ _ _ _ _ _ us hl => match us, hl with | [_, _], _ => rfl⟩
theorem has_LRen (X : K.In h) (G : h.Ns mainGlobals mg) (D : Std K "_law_renamed" sLRen) : Has K mg "_law_renamed" sLRen ["_law_system_here", "_law_order_here"] := by
  obtain ⟨f, fd, F, a⟩ := D.ex
  exact ⟨f, fd, F, PySem.W.mg_of X G a, F.binds (ps := ["_law_system_here", "_law_order_here"]) fun _ _ _ _ _ _ us hl => match us, hl with | [_, _], _ => rfl⟩
theorem has_Alike (X : K.In h) (G : h.Ns mainGlobals mg) (D : Std K "_law_alike" sAlike) : Has K mg "_law_alike" sAlike ["_law_found", "_law_due"] := by
  obtain ⟨f, fd, F, a⟩ := D.ex
  exact ⟨f, fd, F, PySem.W.mg_of X G a, F.binds (ps := ["_law_found", "_law_due"]) fun _ _ _ _ _ _ us hl => match us, hl with | [_, _], _ => rfl⟩
theorem has_LOrds (X : K.In h) (G : h.Ns mainGlobals mg) (D : Std K "_law_orders" sLOrds) : Has K mg "_law_orders" sLOrds ["_law_many"] := by
  obtain ⟨f, fd, F, a⟩ := D.ex
  exact ⟨f, fd, F, PySem.W.mg_of X G a, F.binds (ps := ["_law_many"]) fun _ _ _ _ _ _ us hl => match us, hl with | [_], _ => rfl⟩
theorem has_Law (X : K.In h) (G : h.Ns mainGlobals mg) (D : Std K "law" sLaw) : Has K mg "law" sLaw ["_law_script"] := by
  obtain ⟨f, fd, F, a⟩ := D.ex
  exact ⟨f, fd, F, PySem.W.mg_of X G a, F.binds (ps := ["_law_script"]) fun _ _ _ _ _ _ us hl => match us, hl with | [_], _ => rfl⟩
theorem glb_mk (X : K.In h) (G : h.Ns mainGlobals mg) {t1 t2 : Tok} (z0 : PySem.W.nsIn K mainGlobals "isinstance" = some none) (z1 : PySem.W.nsIn K mainGlobals "int" = some none) (z2 : PySem.W.nsIn K mainGlobals "bool" = some none) (z3 : PySem.W.nsIn K mainGlobals "tuple" = some none) (z4 : PySem.W.nsIn K mainGlobals "list" = some none) (z5 : PySem.W.nsIn K mainGlobals "sorted" = some none) (z6 : PySem.W.nsIn K mainGlobals "set" = some none) (z7 : PySem.W.nsIn K mainGlobals "sum" = some none) (z8 : PySem.W.nsIn K mainGlobals "len" = some none) (z9 : PySem.W.nsIn K mainGlobals "range" = some none) (z10 : PySem.W.nsIn K mainGlobals "min" = some none) (z11 : PySem.W.nsIn K mainGlobals "str" = some none) (zp : PySem.W.nsIn K mainGlobals "MOST_PARTS" = some (some (.int 8 t1))) (zn : PySem.W.nsIn K mainGlobals "MOST_NAMES" = some (some (.int 6 t2))) : Glb mg :=
  ⟨PySem.W.mg_none_of X G z0, PySem.W.mg_none_of X G z1, PySem.W.mg_none_of X G z2, PySem.W.mg_none_of X G z3, PySem.W.mg_none_of X G z4, PySem.W.mg_none_of X G z5, PySem.W.mg_none_of X G z6, PySem.W.mg_none_of X G z7, PySem.W.mg_none_of X G z8, PySem.W.mg_none_of X G z9, PySem.W.mg_none_of X G z10, PySem.W.mg_none_of X G z11, ⟨t1, PySem.W.mg_of X G zp⟩, ⟨t2, PySem.W.mg_of X G zn⟩⟩
theorem all_mk {l : PySem.W.OpenLaw} {fa : Addr} (X : K.In h) (G : h.Ns mainGlobals mg) (hfa : mg "law" = some (.ref fa)) (T : Glb mg)
    (dIn : Std K "is_in" sIn) (dMask : Std K "mask_of" sMask) (dSets : Std K "are_sets" sSets) (dIsSys : Std K "is_system" sIsSys) (dNeedSys : Std K "need_system" sNeedSys) (dNeedOrd : Std K "need_order" sNeedOrd) (dTurned : Std K "turned" sTurned) (dRenamed : Std K "renamed" sRenamed) (dOrders : Std K "orders_of" sOrders) (dSmall : Std K "need_small" sNeedSmall) (dLeastName : Std K "least_name" sLeastName) (dKind : Std K "same_kind" sSameKind) (dTaken : Std K "_law_taken" sTaken) (dPick : Std K "_law_pick" sPick) (dSome : Std K "_law_some_set" sSome) (dLeast : Std K "_law_least" sLeastL) (dSystem : Std K "_law_system" sSystem) (dOrder : Std K "_law_order" sOrder) (dLRen : Std K "_law_renamed" sLRen) (dAlike : Std K "_law_alike" sAlike) (dLOrds : Std K "_law_orders" sLOrds) (dLaw : Std K "law" sLaw) :
    ∃ fd : FuncData, (∀ (s : Shared) (v : Value), BindsTo s fd ⟨[v], []⟩ [("_law_script", v)]) ∧ ∀ base : Heap, K.In base → base.Ns mainGlobals mg → FnOk l.prog w K mg base CX0 7 fa fd ["_law_script"] (spLaw K) := by
  obtain ⟨f, fd, F, m, b⟩ := (has_Law X G dLaw).ex
  have e := hfa.symm.trans m
  cases e
  refine ⟨fd, ?_, fun base _ _ => ?_⟩
  · obtain ⟨oc, od, kV, doc, pm, an, cdv, ct, osl, rfl, _⟩ := F.ex
    exact fun s v => .of_eq rfl
  have cIn : CIn l.prog w K mg base := can_of (has_In X G dIn) fun f fd F m b => ok_in F T
  have cMask : CMask l.prog w K mg base := can_of (has_Mask X G dMask) fun f fd F m b => ok_mask F T
  have cSets : CSets l.prog w K mg base := can_of (has_Sets X G dSets) fun f fd F m b => ok_sets F T cIn cMask
  have cIsSys : CIsSys l.prog w K mg base := can_of (has_IsSys X G dIsSys) fun f fd F m b => ok_issys F T cIn cSets
  have cNeedSys : CNeedSys l.prog w K mg base := can_of (has_NeedSys X G dNeedSys) fun f fd F m b => ok_needsys F cIsSys
  have cNeedOrd : CNeedOrd l.prog w K mg base := can_of (has_NeedOrd X G dNeedOrd) fun f fd F m b => ok_needord F T cIn
  have cTurned : CTurned l.prog w K mg base := can_of (has_Turned X G dTurned) fun f fd F m b => ok_turned F T
  have cRenamed : CRenamed l.prog w K mg base := can_of (has_Renamed X G dRenamed) fun f fd F m b => ok_renamed F cNeedSys cNeedOrd cTurned
  have cOrders : COrders l.prog w K mg base := can_of (has_Orders X G dOrders) fun f fd F m b => ok_orders F T
  have cSmall : CSmall l.prog w K mg base := can_of (has_Small X G dSmall) fun f fd F m b => ok_small F T cNeedSys
  have cLeastName : CLeastName l.prog w K mg base := can_of (has_LeastName X G dLeastName) fun f fd F m b => ok_least F T cSmall cOrders cTurned
  have cKind : CKind l.prog w K mg base := can_of (has_Kind X G dKind) fun f fd F m b => ok_kind F T cNeedSys cOrders cTurned
  have cTaken : CTaken l.prog w K mg base := can_of (has_Taken X G dTaken) fun f fd F m b => ok_taken F T
  have cPick : CPick l.prog w K mg base := can_of (has_Pick X G dPick) fun f fd F m b => ok_pick F T cTaken
  have cSome : CSome l.prog w K mg base := can_of (has_Some X G dSome) fun f fd F m b => ok_some F T cTaken cPick
  have cLeast : CLeast l.prog w K mg base := can_of (has_Least X G dLeast) fun f fd F m b => ok_lleast F T
  have cSystem : CSystem l.prog w K mg base := can_of (has_System X G dSystem) fun f fd F m b => ok_system F T cTaken cPick cSome cLeast
  have cOrder : COrder l.prog w K mg base := can_of (has_Order X G dOrder) fun f fd F m b => ok_order F T cTaken
  have cLRen : CLRen l.prog w K mg base := can_of (has_LRen X G dLRen) fun f fd F m b => ok_lren F T
  have cAlike : CAlike l.prog w K mg base := can_of (has_Alike X G dAlike) fun f fd F m b => alike_all F T b m 5
  have cLOrds : CLOrds l.prog w K mg base := can_of (has_LOrds X G dLOrds) fun f fd F m b => ok_lords F T
  exact ok_law F T cTaken cPick cSystem cOrder cLRen cAlike cLOrds cRenamed cLeastName cKind
end
end K8

open PySem PySem.W PyProof.Rows
set_option maxRecDepth 100000 in
set_option maxHeartbeats 0 in
theorem PySem.Challenge.cw_faultworks_k08_whole_kinds_of_systems_holds : PySem.Challenge.rw_faultworks_k08_whole_kinds_of_systems.Holds := by
  w_on; o_law; k_head; (case hw => w_witness2)
  k_fill
  refine L2.walk_of (l := PySem.Challenge.rw_faultworks_k08_whole_kinds_of_systems) (n := 63) (k := 7) (x := "_law_script") (CX := fun _ => L2.CX0) (sp := fun w => K8.spLaw _) rfl (by decide) rfl ⟨rfl, by decide, by decide⟩ (fun w h Y => PySem.W.kIn_of Y) ?F (fun _ _ a ns hl _ hS => ⟨a, ns, rfl, hS, hl, fun _ => rfl⟩) (fun _ _ _ _ _ h => h)
  case F =>
    intro w mg fa h KX G hmg
    refine' K8.all_mk KX G hmg ?T ?dIn ?dMask ?dSets ?dIsSys ?dNeedSys ?dNeedOrd ?dTurned ?dRenamed ?dOrders ?dSmall ?dLeastName ?dKind ?dTaken ?dPick ?dSome ?dLeast ?dSystem ?dOrder ?dLRen ?dAlike ?dLOrds ?dLaw
    (case T => (refine' K8.glb_mk KX G ?z0 ?z1 ?z2 ?z3 ?z4 ?z5 ?z6 ?z7 ?z8 ?z9 ?z10 ?z11 ?zp ?zn; (case z0 => k_is); (case z1 => k_is); (case z2 => k_is); (case z3 => k_is); (case z4 => k_is); (case z5 => k_is); (case z6 => k_is); (case z7 => k_is); (case z8 => k_is); (case z9 => k_is); (case z10 => k_is); (case z11 => k_is); (case zp => k_is); (case zn => k_is)))
    (case dIn => (refine' K8.std_mk ?a ?l ?c ?k; (case a => k_is); (case l => k_is); (case c => k_is); (case k => k_is)))
    (case dMask => (refine' K8.std_mk ?a ?l ?c ?k; (case a => k_is); (case l => k_is); (case c => k_is); (case k => k_is)))
    (case dSets => (refine' K8.std_mk ?a ?l ?c ?k; (case a => k_is); (case l => k_is); (case c => k_is); (case k => k_is)))
    (case dIsSys => (refine' K8.std_mk ?a ?l ?c ?k; (case a => k_is); (case l => k_is); (case c => k_is); (case k => k_is)))
    (case dNeedSys => (refine' K8.std_mk ?a ?l ?c ?k; (case a => k_is); (case l => k_is); (case c => k_is); (case k => k_is)))
    (case dNeedOrd => (refine' K8.std_mk ?a ?l ?c ?k; (case a => k_is); (case l => k_is); (case c => k_is); (case k => k_is)))
    (case dTurned => (refine' K8.std_mk ?a ?l ?c ?k; (case a => k_is); (case l => k_is); (case c => k_is); (case k => k_is)))
    (case dRenamed => (refine' K8.std_mk ?a ?l ?c ?k; (case a => k_is); (case l => k_is); (case c => k_is); (case k => k_is)))
    (case dOrders => (refine' K8.std_mk ?a ?l ?c ?k; (case a => k_is); (case l => k_is); (case c => k_is); (case k => k_is)))
    (case dSmall => (refine' K8.std_mk ?a ?l ?c ?k; (case a => k_is); (case l => k_is); (case c => k_is); (case k => k_is)))
    (case dLeastName => (refine' K8.std_mk ?a ?l ?c ?k; (case a => k_is); (case l => k_is); (case c => k_is); (case k => k_is)))
    (case dKind => (refine' K8.std_mk ?a ?l ?c ?k; (case a => k_is); (case l => k_is); (case c => k_is); (case k => k_is)))
    (case dTaken => (refine' K8.std_mk ?a ?l ?c ?k; (case a => k_is); (case l => k_is); (case c => k_is); (case k => k_is)))
    (case dPick => (refine' K8.std_mk ?a ?l ?c ?k; (case a => k_is); (case l => k_is); (case c => k_is); (case k => k_is)))
    (case dSome => (refine' K8.std_mk ?a ?l ?c ?k; (case a => k_is); (case l => k_is); (case c => k_is); (case k => k_is)))
    (case dLeast => (refine' K8.std_mk ?a ?l ?c ?k; (case a => k_is); (case l => k_is); (case c => k_is); (case k => k_is)))
    (case dSystem => (refine' K8.std_mk ?a ?l ?c ?k; (case a => k_is); (case l => k_is); (case c => k_is); (case k => k_is)))
    (case dOrder => (refine' K8.std_mk ?a ?l ?c ?k; (case a => k_is); (case l => k_is); (case c => k_is); (case k => k_is)))
    (case dLRen => (refine' K8.std_mk ?a ?l ?c ?k; (case a => k_is); (case l => k_is); (case c => k_is); (case k => k_is)))
    (case dAlike => (refine' K8.std_mk ?a ?l ?c ?k; (case a => k_is); (case l => k_is); (case c => k_is); (case k => k_is)))
    (case dLOrds => (refine' K8.std_mk ?a ?l ?c ?k; (case a => k_is); (case l => k_is); (case c => k_is); (case k => k_is)))
    (case dLaw => (refine' K8.std_mk ?a ?l ?c ?k; (case a => k_is); (case l => k_is); (case c => k_is); (case k => k_is)))
