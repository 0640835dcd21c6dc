import PyProof.Rows.All
import PyProof.Lay0
import Wide.All
import OpenK.AllK
import Wide.FinOn
import HandS.ForMost
import HandS.TupLe
import HandS.SortOrd
import HandS.SortRule
import HandS.SortKw
import PyProof.Rows.SortKeyStr
import KE.SortCalls
import HandS.Lambda
import KE.KSortKey
import HandS.Star
import HandS.Style
import HandS.IsInst
import HandS.More
import HandS.Wide
import PySem.Challenge.RW_everyslice_k78_whole_normal_forms
import HandS.Dict
import HandS.EndTab
set_option linter.all false
/-! K78, part 1: words, forms, their order, normal forms; plain Lean. -/
namespace K78
open PySem

inductive Kd where
  | bo | ei | mi | th
  deriving DecidableEq

namespace Kd
def name : Kd → Str
  | bo => "both"
  | ei => "either"
  | mi => "mine"
  | th => "theirs"
def rank : Kd → Nat
  | bo => 0
  | ei => 1
  | mi => 3
  | th => 4
def dual : Kd → Kd
  | bo => ei
  | ei => bo
  | mi => th
  | th => mi
/-- what goes over: both over mine, either over theirs -/
def over : Kd → Option Kd
  | bo => some mi
  | ei => some th
  | mi => none
  | th => none
theorem dual_dual (k : Kd) : k.dual.dual = k := by cases k <;> rfl
theorem dual_inj {k l : Kd} (h : k.dual = l.dual) : k = l := by rw [← dual_dual k, h, dual_dual]
theorem name_inj {k l : Kd} (h : k.name = l.name) : k = l := by
  cases k <;> cases l <;> first | rfl | (exfalso; revert h; decide +kernel)
theorem name_ne (k : Kd) : k.name ≠ ("letter" : Str) := by cases k <;> decide +kernel
end Kd

/-! ### orders -/
def isLt : Ordering → Bool
  | .lt => true
  | .eq => false
  | .gt => false
theorem isLt_iff {o : Ordering} : isLt o = true ↔ o = .lt := by cases o <;> decide
def cmpNat (a b : Nat) : Ordering := if a < b then .lt else if b < a then .gt else .eq
def cmpInt (a b : Int) : Ordering := if a < b then .lt else if b < a then .gt else .eq
def cmpNats : List Nat → List Nat → Ordering
  | [], [] => .eq
  | [], _ :: _ => .lt
  | _ :: _, [] => .gt
  | a :: l, b :: m => (cmpNat a b).then (cmpNats l m)

theorem then_eq {a b : Ordering} : a.then b = .eq ↔ a = .eq ∧ b = .eq := by cases a <;> cases b <;> decide
theorem then_swap {a b : Ordering} : (a.then b).swap = a.swap.then b.swap := by cases a <;> cases b <;> rfl
theorem then_trans {a1 a2 a3 b1 b2 b3 : Ordering} (t : a1 = .lt → a2 = .lt → a3 = .lt) (e1 : a1 = .eq → a3 = a2) (e2 : a2 = .eq → a3 = a1)
    (tb : a1 = .eq → a2 = .eq → b1 = .lt → b2 = .lt → b3 = .lt) (h1 : a1.then b1 = .lt) (h2 : a2.then b2 = .lt) : a3.then b3 = .lt := by
  cases a1 with
  | gt => exact absurd h1 (by simp [Ordering.then])
  | eq =>
    have q := e1 rfl
    subst q
    cases a3 with
    | gt => exact absurd h2 (by simp [Ordering.then])
    | lt => rfl
    | eq => exact tb rfl rfl h1 h2
  | lt =>
    cases a2 with
    | gt => exact absurd h2 (by simp [Ordering.then])
    | lt => rw [t rfl rfl]; rfl
    | eq => rw [e2 rfl]; rfl

theorem cmpNat_eq {a b : Nat} : cmpNat a b = .eq ↔ a = b := by
  unfold cmpNat
  constructor
  · intro h
    split at h
    · cases h
    · split at h
      · cases h
      · omega
  · rintro rfl
    simp
theorem cmpNat_swap (a b : Nat) : cmpNat b a = (cmpNat a b).swap := by
  unfold cmpNat
  by_cases h : a < b
  · rw [if_neg (by omega), if_pos h, if_pos h]; rfl
  · by_cases h2 : b < a
    · rw [if_pos h2, if_neg h, if_pos h2]; rfl
    · rw [if_neg h2, if_neg h, if_neg h, if_neg h2]; rfl
theorem cmpNat_lt {a b : Nat} : cmpNat a b = .lt ↔ a < b := by
  unfold cmpNat
  constructor
  · intro h
    split at h
    · assumption
    · split at h <;> cases h
  · intro h; rw [if_pos h]
theorem cmpInt_eq {a b : Int} : cmpInt a b = .eq ↔ a = b := by
  unfold cmpInt
  constructor
  · intro h
    split at h
    · cases h
    · split at h
      · cases h
      · omega
  · rintro rfl
    simp
theorem cmpInt_swap (a b : Int) : cmpInt b a = (cmpInt a b).swap := by
  unfold cmpInt
  by_cases h : a < b
  · rw [if_neg (by omega), if_pos h, if_pos h]; rfl
  · by_cases h2 : b < a
    · rw [if_pos h2, if_neg h, if_pos h2]; rfl
    · rw [if_neg h2, if_neg h, if_neg h, if_neg h2]; rfl
theorem cmpInt_lt {a b : Int} : cmpInt a b = .lt ↔ a < b := by
  unfold cmpInt
  constructor
  · intro h
    split at h
    · assumption
    · split at h <;> cases h
  · intro h; rw [if_pos h]
theorem cmpNats_eq : ∀ {a b : List Nat}, cmpNats a b = .eq ↔ a = b
  | [], [] => by simp [cmpNats]
  | [], _ :: _ => by simp [cmpNats]
  | _ :: _, [] => by simp [cmpNats]
  | a :: l, b :: m => by
    show (cmpNat a b).then (cmpNats l m) = .eq ↔ _
    rw [then_eq, cmpNat_eq, cmpNats_eq, List.cons.injEq]
theorem cmpNats_swap : ∀ (a b : List Nat), cmpNats b a = (cmpNats a b).swap
  | [], [] => rfl
  | [], _ :: _ => rfl
  | _ :: _, [] => rfl
  | a :: l, b :: m => by
    show (cmpNat b a).then (cmpNats m l) = ((cmpNat a b).then (cmpNats l m)).swap
    rw [then_swap, cmpNat_swap a b, cmpNats_swap l m]
theorem cmpNats_lt : ∀ {a b : List Nat}, cmpNats a b = .lt ↔ a < b
  | [], [] => by simp [cmpNats]
  | [], _ :: _ => by simp [cmpNats]
  | _ :: _, [] => by simp [cmpNats]
  | a :: l, b :: m => by
    show (cmpNat a b).then (cmpNats l m) = .lt ↔ _
    rw [List.cons_lt_cons_iff]
    cases h : cmpNat a b with
    | lt =>
      have q := cmpNat_lt.mp h
      simp [Ordering.then, q]
    | eq =>
      have q := cmpNat_eq.mp h
      subst q
      simp only [Ordering.then]
      rw [cmpNats_lt]
      simp
    | gt =>
      have q : cmpNat b a = .lt := by rw [cmpNat_swap a b, h]; rfl
      have q2 := cmpNat_lt.mp q
      simp only [Ordering.then]
      constructor
      · intro z; cases z
      · rintro (z | ⟨z, _⟩) <;> omega
theorem cmpNats_trans : ∀ {a b c : List Nat}, cmpNats a b = .lt → cmpNats b c = .lt → cmpNats a c = .lt := fun {a b c} h1 h2 =>
  cmpNats_lt.mpr (List.lt_trans (cmpNats_lt.mp h1) (cmpNats_lt.mp h2))

/-! ### words -/
inductive W where
  | lt (n : Str) (s : Int)
  | nd (k : Kd) (a b : W)
  deriving DecidableEq
namespace W
def letters : W → Nat
  | lt _ _ => 1
  | nd _ a b => a.letters + b.letters
def depth : W → Nat
  | lt _ _ => 1
  | nd _ a b => 1 + max a.depth b.depth
def turn : W → W
  | lt n s => lt n (-s)
  | nd k a b => nd k.dual a.turn b.turn
def cnt : W → Nat
  | lt _ _ => 1
  | nd .mi a b => a.cnt + b.cnt
  | nd .th a b => a.cnt + b.cnt
  | nd .bo a b => a.cnt * b.cnt
  | nd .ei a b => a.cnt * b.cnt
def nodes : W → Nat
  | lt _ _ => 1
  | nd _ a b => 1 + a.nodes + b.nodes
/-- every letter's name is one of L, its sign 1 or -1 -/
def ok (L : List Str) : W → Prop
  | lt n s => n ∈ L ∧ (s = 1 ∨ s = -1)
  | nd _ a b => a.ok L ∧ b.ok L
def data : W → PyData
  | lt n s => .tuple [.str "letter", .str n, .int s]
  | nd k a b => .tuple [.str k.name, a.data, b.data]
theorem letters_pos : ∀ w : W, 1 ≤ w.letters
  | lt _ _ => Nat.le_refl _
  | nd _ a b => by have := letters_pos a; show 1 ≤ a.letters + b.letters; omega
theorem depth_pos : ∀ w : W, 1 ≤ w.depth
  | lt _ _ => Nat.le_refl _
  | nd _ a b => by show 1 ≤ 1 + max a.depth b.depth; omega
theorem turn_letters : ∀ w : W, w.turn.letters = w.letters
  | lt _ _ => rfl
  | nd _ a b => by show a.turn.letters + b.turn.letters = a.letters + b.letters; rw [turn_letters a, turn_letters b]
theorem turn_depth : ∀ w : W, w.turn.depth = w.depth
  | lt _ _ => rfl
  | nd _ a b => by show 1 + max a.turn.depth b.turn.depth = 1 + max a.depth b.depth; rw [turn_depth a, turn_depth b]
theorem turn_ok {L : List Str} : ∀ {w : W}, w.ok L → w.turn.ok L
  | lt _ s, h => ⟨h.1, h.2.elim (fun e => .inr (by rw [e])) fun e => .inl (by rw [e]; rfl)⟩
  | nd _ _ _, h => ⟨turn_ok h.1, turn_ok h.2⟩
theorem ok_mono {L M : List Str} (s : ∀ x ∈ L, x ∈ M) : ∀ {w : W}, w.ok L → w.ok M
  | lt _ _, h => ⟨s _ h.1, h.2⟩
  | nd _ _ _, h => ⟨ok_mono s h.1, ok_mono s h.2⟩
end W

/-! ### forms -/
inductive F where
  | lt (n : Str) (s : Int)
  | nd (k : Kd) (fs : List F)
namespace F
def rank : F → Nat
  | lt _ _ => 2
  | nd k _ => k.rank
mutual
def cmp : F → F → Ordering
  | lt n s, lt m r => (cmpNats n.cps.toList m.cps.toList).then (cmpInt s r)
  | lt _ _, nd k _ => cmpNat 2 k.rank
  | nd k _, lt _ _ => cmpNat k.rank 2
  | nd k fs, nd l gs => (cmpNat k.rank l.rank).then (cmps fs gs)
def cmps : List F → List F → Ordering
  | [], [] => .eq
  | [], _ :: _ => .lt
  | _ :: _, [] => .gt
  | f :: fs, g :: gs => (cmp f g).then (cmps fs gs)
end
end F
theorem Kd.rank_inj {k l : Kd} (h : k.rank = l.rank) : k = l := by cases k <;> cases l <;> first | rfl | cases h
theorem Kd.rank_ne (k : Kd) : k.rank ≠ 2 := by cases k <;> decide
theorem str_ext {n m : Str} (h : n.cps.toList = m.cps.toList) : n = m := by
  cases n with | mk a => cases m with | mk b =>
    have h : a.toList = b.toList := h
    rw [Array.toList_inj.mp h]
namespace F
mutual
theorem cmp_eq : ∀ (x y : F), cmp x y = .eq ↔ x = y
  | lt n s, lt m r => by
    simp only [cmp]
    rw [then_eq, cmpNats_eq, cmpInt_eq]
    constructor
    · rintro ⟨a, rfl⟩
      rw [str_ext a]
    · intro h
      injection h with h1 h2
      subst h1
      exact ⟨rfl, h2⟩
  | lt _ _, nd k _ => by
    simp only [cmp]
    rw [cmpNat_eq]
    exact ⟨fun h => absurd h.symm k.rank_ne, fun h => nomatch h⟩
  | nd k _, lt _ _ => by
    simp only [cmp]
    rw [cmpNat_eq]
    exact ⟨fun h => absurd h k.rank_ne, fun h => nomatch h⟩
  | nd k fs, nd l gs => by
    simp only [cmp]
    rw [then_eq, cmpNat_eq, cmps_eq fs gs]
    constructor
    · rintro ⟨a, rfl⟩
      rw [Kd.rank_inj a]
    · intro h
      injection h with h1 h2
      subst h1
      exact ⟨rfl, h2⟩
theorem cmps_eq : ∀ (x y : List F), cmps x y = .eq ↔ x = y
  | [], [] => by simp [cmps]
  | [], _ :: _ => by simp [cmps]
  | _ :: _, [] => by simp [cmps]
  | f :: fs, g :: gs => by
    simp only [cmps]
    rw [then_eq, cmp_eq f g, cmps_eq fs gs, List.cons.injEq]
end
mutual
theorem cmp_swap : ∀ (x y : F), cmp y x = (cmp x y).swap
  | lt n s, lt m r => by
    simp only [cmp]
    rw [then_swap, cmpNats_swap n.cps.toList, cmpInt_swap s]
  | lt _ _, nd k _ => by
    simp only [cmp]
    rw [cmpNat_swap 2]
  | nd k _, lt _ _ => by
    simp only [cmp]
    rw [cmpNat_swap k.rank]
  | nd k fs, nd l gs => by
    simp only [cmp]
    rw [then_swap, cmpNat_swap k.rank, cmps_swap fs gs]
theorem cmps_swap : ∀ (x y : List F), cmps y x = (cmps x y).swap
  | [], [] => rfl
  | [], _ :: _ => rfl
  | _ :: _, [] => rfl
  | f :: fs, g :: gs => by
    simp only [cmps]
    rw [then_swap, cmp_swap f g, cmps_swap fs gs]
end
theorem nat_t1 {a b c : Nat} (h1 : cmpNat a b = .lt) (h2 : cmpNat b c = .lt) : cmpNat a c = .lt :=
  cmpNat_lt.mpr (Nat.lt_trans (cmpNat_lt.mp h1) (cmpNat_lt.mp h2))
theorem nat_e1 {a b c : Nat} (h1 : cmpNat a b = .eq) : cmpNat a c = cmpNat b c := by rw [cmpNat_eq.mp h1]
theorem nat_e2 {a b c : Nat} (h1 : cmpNat b c = .eq) : cmpNat a c = cmpNat a b := by rw [cmpNat_eq.mp h1]
mutual
theorem cmp_trans : ∀ (x y z : F), cmp x y = .lt → cmp y z = .lt → cmp x z = .lt
  | lt n s, lt m r, lt l t => by
    simp only [cmp]
    refine then_trans cmpNats_trans (fun h => by rw [cmpNats_eq.mp h]) (fun h => by rw [cmpNats_eq.mp h]) (fun _ _ h1 h2 => ?_)
    exact cmpInt_lt.mpr (Int.lt_trans (cmpInt_lt.mp h1) (cmpInt_lt.mp h2))
  | lt _ _, lt _ _, nd k _ => by
    simp only [cmp]
    exact fun _ h => h
  | lt _ _, nd k _, lt _ _ => by
    simp only [cmp]
    intro h1 h2
    have := cmpNat_lt.mp h1
    have := cmpNat_lt.mp h2
    omega
  | lt _ _, nd k _, nd l _ => by
    simp only [cmp]
    intro h1 h2
    have h1 := cmpNat_lt.mp h1
    cases q : cmpNat k.rank l.rank with
    | lt => have := cmpNat_lt.mp q; exact cmpNat_lt.mpr (by omega)
    | eq => have := cmpNat_eq.mp q; exact cmpNat_lt.mpr (by omega)
    | gt => rw [q] at h2; simp [Ordering.then] at h2
  | nd k _, lt _ _, lt _ _ => by
    simp only [cmp]
    exact fun h _ => h
  | nd k _, lt _ _, nd l _ => by
    simp only [cmp]
    intro h1 h2
    rw [nat_t1 h1 h2]
    rfl
  | nd k _, nd l _, lt _ _ => by
    simp only [cmp]
    intro h1 h2
    have h2 := cmpNat_lt.mp h2
    cases q : cmpNat k.rank l.rank with
    | lt => have := cmpNat_lt.mp q; exact cmpNat_lt.mpr (by omega)
    | eq => have := cmpNat_eq.mp q; exact cmpNat_lt.mpr (by omega)
    | gt => rw [q] at h1; simp [Ordering.then] at h1
  | nd k fs, nd l gs, nd m hs => by
    simp only [cmp]
    exact then_trans nat_t1 nat_e1 nat_e2 (fun _ _ h1 h2 => cmps_trans fs gs hs h1 h2)
theorem cmps_trans : ∀ (x y z : List F), cmps x y = .lt → cmps y z = .lt → cmps x z = .lt
  | [], _, [] => by
    intro h1 h2
    rename_i y
    cases y <;> simp [cmps] at h1 h2
  | [], _, _ :: _ => fun _ _ => rfl
  | _ :: _, [], _ => by simp [cmps]
  | _ :: _, _ :: _, [] => by simp [cmps]
  | f :: fs, g :: gs, h :: hs => by
    simp only [cmps]
    refine then_trans (cmp_trans f g h) (fun e => ?_) (fun e => ?_) (fun _ _ h1 h2 => cmps_trans fs gs hs h1 h2)
    · rw [(cmp_eq f g).mp e]
    · rw [(cmp_eq g h).mp e]
end
instance : DecidableEq F := fun x y => decidable_of_iff (cmp x y = .eq) (cmp_eq x y)
def lt? (x y : F) : Bool := isLt (cmp x y)
theorem lt?_asym (x y : F) (h : lt? x y = true) : lt? y x = false := by
  have h : cmp x y = .lt := isLt_iff.mp h
  unfold lt?
  rw [cmp_swap x y, h]
  rfl
theorem le_iff {x y : F} : lt? y x = false ↔ (cmp x y = .lt ∨ x = y) := by
  unfold lt?
  rw [cmp_swap x y, ← cmp_eq x y]
  cases cmp x y <;> decide
theorem lt?_tr (x y z : F) (h1 : lt? y x = false) (h2 : lt? z y = false) : lt? z x = false := by
  rw [le_iff] at h1 h2 ⊢
  rcases h1 with h1 | rfl
  · rcases h2 with h2 | rfl
    · exact .inl (cmp_trans x y z h1 h2)
    · exact .inl h1
  · exact h2
theorem le_antisymm {x y : F} (h1 : lt? y x = false) (h2 : lt? x y = false) : x = y := by
  rw [le_iff] at h1 h2
  rcases h1 with h1 | h1
  · rcases h2 with h2 | h2
    · rw [cmp_swap x y, h1] at h2; cases h2
    · exact h2.symm
  · exact h1

/-! ### sorted -/
def ins (x : F) : List F → List F
  | [] => [x]
  | y :: l => if lt? y x = true then y :: ins x l else x :: y :: l
def srt : List F → List F
  | [] => []
  | x :: l => ins x (srt l)
abbrev Ord (l : List F) : Prop := l.Pairwise fun x y => lt? y x = false
theorem ins_perm (x : F) : ∀ l : List F, (ins x l).Perm (x :: l)
  | [] => List.Perm.refl _
  | y :: l => by
    unfold ins
    split
    · exact ((ins_perm x l).cons y).trans (List.Perm.swap x y l)
    · exact List.Perm.refl _
theorem srt_perm : ∀ l : List F, (srt l).Perm l
  | [] => List.Perm.refl _
  | x :: l => (ins_perm x (srt l)).trans ((srt_perm l).cons x)
theorem ins_ord (x : F) : ∀ l : List F, Ord l → Ord (ins x l)
  | [], _ => List.pairwise_singleton _ _
  | y :: l, h => by
    obtain ⟨h1, h2⟩ := List.pairwise_cons.mp h
    unfold ins
    split
    · rename_i c
      refine List.pairwise_cons.mpr ⟨fun z hz => ?_, ins_ord x l h2⟩
      rcases List.mem_cons.mp ((ins_perm x l).mem_iff.mp hz) with e | e
      · rw [e]; exact lt?_asym _ _ c
      · exact h1 z e
    · rename_i c
      have c : lt? y x = false := by
        cases q : lt? y x with
        | true => exact absurd q c
        | false => rfl
      refine List.pairwise_cons.mpr ⟨fun z hz => ?_, h⟩
      rcases List.mem_cons.mp hz with e | e
      · rw [e]; exact c
      · exact lt?_tr x y z c (h1 z e)
theorem srt_ord : ∀ l : List F, Ord (srt l)
  | [] => List.Pairwise.nil
  | x :: l => ins_ord x _ (srt_ord l)
theorem ord_uniq {l m : List F} (hl : Ord l) (hm : Ord m) (p : l.Perm m) : l = m :=
  List.Perm.eq_of_pairwise (le := fun x y => lt? y x = false) (fun _ _ _ _ h1 h2 => le_antisymm h1 h2) hl hm p
/-- equal up to the sequence: sorted alike -/
theorem srt_congr {l m : List F} (p : l.Perm m) : srt l = srt m := ord_uniq (srt_ord l) (srt_ord m) ((srt_perm l).trans (p.trans (srt_perm m).symm))
theorem srt_of {l m : List F} (hl : Ord l) (p : l.Perm m) : l = srt m := ord_uniq hl (srt_ord m) (p.trans (srt_perm m).symm)
theorem srt_idem (l : List F) : srt (srt l) = srt l := srt_congr (srt_perm l)
theorem srt_mem {x : F} {l : List F} : x ∈ srt l ↔ x ∈ l := (srt_perm l).mem_iff
theorem srt_length (l : List F) : (srt l).length = l.length := (srt_perm l).length_eq
theorem srt_map_srt (f : F → F) (l : List F) : srt ((srt l).map f) = srt (l.map f) := srt_congr ((srt_perm l).map f)

/-! ### measures -/
mutual
def size : F → Nat
  | lt _ _ => 1
  | nd _ fs => sizes fs
def sizes : List F → Nat
  | [] => 0
  | f :: fs => size f + sizes fs
end
mutual
def depth : F → Nat
  | lt _ _ => 1
  | nd _ fs => 1 + depths fs
def depths : List F → Nat
  | [] => 0
  | f :: fs => max (depth f) (depths fs)
end
mutual
def turn : F → F
  | lt n s => lt n (-s)
  | nd k fs => nd k.dual (srt (turns fs))
def turns : List F → List F
  | [] => []
  | f :: fs => turn f :: turns fs
end
mutual
def pos : F → Prop
  | lt _ _ => True
  | nd _ fs => fs ≠ [] ∧ poss fs
def poss : List F → Prop
  | [] => True
  | f :: fs => pos f ∧ poss fs
end
mutual
def ok (L : List Str) : F → Prop
  | lt n _ => n ∈ L
  | nd _ fs => oks L fs
def oks (L : List Str) : List F → Prop
  | [] => True
  | f :: fs => ok L f ∧ oks L fs
end
mutual
def data : F → PyData
  | lt n s => .tuple [.str "letter", .str n, .int s]
  | nd k fs => .tuple [.str k.name, .tuple (datas fs)]
def datas : List F → List PyData
  | [] => []
  | f :: fs => data f :: datas fs
end
theorem sizes_sum : ∀ fs : List F, sizes fs = (fs.map size).sum
  | [] => rfl
  | f :: fs => by rw [sizes, sizes_sum fs, List.map_cons, List.sum_cons]
theorem sizes_append (fs gs : List F) : sizes (fs ++ gs) = sizes fs + sizes gs := by
  rw [sizes_sum, sizes_sum, sizes_sum, List.map_append, List.sum_append]
theorem sizes_perm {fs gs : List F} (p : fs.Perm gs) : sizes fs = sizes gs := by
  induction p with
  | nil => rfl
  | cons x _ ih => rw [sizes, sizes, ih]
  | swap x y l => simp only [sizes]; omega
  | trans _ _ h1 h2 => rw [h1, h2]
theorem turns_map : ∀ fs : List F, turns fs = fs.map turn
  | [] => rfl
  | f :: fs => by rw [turns, turns_map fs, List.map_cons]
theorem datas_map : ∀ fs : List F, datas fs = fs.map data
  | [] => rfl
  | f :: fs => by rw [datas, datas_map fs, List.map_cons]
theorem poss_iff : ∀ {fs : List F}, poss fs ↔ ∀ f ∈ fs, pos f
  | [] => by simp [poss]
  | f :: fs => by rw [poss, poss_iff]; simp
theorem oks_iff {L : List Str} : ∀ {fs : List F}, oks L fs ↔ ∀ f ∈ fs, ok L f
  | [] => by simp [oks]
  | f :: fs => by rw [oks, oks_iff]; simp
theorem depths_iff {n : Nat} : ∀ {fs : List F}, depths fs ≤ n ↔ ∀ f ∈ fs, depth f ≤ n
  | [] => by simp [depths]
  | f :: fs => by
    rw [depths, Nat.max_le, depths_iff]
    simp
theorem mem_depth {f : F} {fs : List F} (h : f ∈ fs) : depth f ≤ depths fs := depths_iff.mp (Nat.le_refl _) f h
theorem mem_size {f : F} {fs : List F} (h : f ∈ fs) : size f ≤ sizes fs := by
  induction fs with
  | nil => cases h
  | cons g gs ih =>
    rw [sizes]
    rcases List.mem_cons.mp h with rfl | h
    · omega
    · have := ih h; omega
mutual
theorem size_pos : ∀ f : F, pos f → 1 ≤ size f
  | lt _ _, _ => Nat.le_refl _
  | nd _ fs, h => by
    have h : fs ≠ [] ∧ poss fs := by simpa only [pos] using h
    rw [size]
    have q := sizes_len fs h.2
    cases fs with
    | nil => exact absurd rfl h.1
    | cons f fs => rw [List.length_cons] at q; omega
theorem sizes_len : ∀ fs : List F, poss fs → fs.length ≤ sizes fs
  | [], _ => Nat.zero_le _
  | f :: fs, h => by
    have h : pos f ∧ poss fs := by simpa only [poss] using h
    rw [sizes, List.length_cons]
    have h1 := size_pos f h.1
    have h2 := sizes_len fs h.2
    omega
end
mutual
theorem turn_size : ∀ f : F, size (turn f) = size f
  | lt _ _ => rfl
  | nd k fs => by
    rw [turn, size, size, sizes_perm (srt_perm _)]
    exact turns_size fs
theorem turns_size : ∀ fs : List F, sizes (turns fs) = sizes fs
  | [] => rfl
  | f :: fs => by rw [turns, sizes, sizes, turn_size f, turns_size fs]
end
mutual
theorem turn_depth : ∀ f : F, depth (turn f) = depth f
  | lt _ _ => rfl
  | nd k fs => by
    rw [turn, depth, depth]
    have h := turns_depth fs
    have e : depths (srt (turns fs)) = depths (turns fs) := Nat.le_antisymm (depths_iff.mpr fun f hf => mem_depth (srt_mem.mp hf)) (depths_iff.mpr fun f hf => mem_depth (srt_mem.mpr hf))
    rw [e, h]
theorem turns_depth : ∀ fs : List F, depths (turns fs) = depths fs
  | [] => rfl
  | f :: fs => by rw [turns, depths, depths, turn_depth f, turns_depth fs]
end
mutual
theorem turn_ok {L : List Str} : ∀ f : F, ok L f → ok L (turn f)
  | lt _ _, h => h
  | nd k fs, h => by
    have h : oks L fs := by simpa only [ok] using h
    rw [turn, ok]
    exact oks_iff.mpr fun f hf => oks_iff.mp (turns_ok fs h) f (srt_mem.mp hf)
theorem turns_ok {L : List Str} : ∀ fs : List F, oks L fs → oks L (turns fs)
  | [], h => h
  | f :: fs, h => by
    have h : ok L f ∧ oks L fs := by simpa only [oks] using h
    rw [turns, oks]
    exact ⟨turn_ok f h.1, turns_ok fs h.2⟩
end

/-! ### normal forms -/
/-- the forms in a form of a kind, or one of another kind alone -/
def parts (k : Kd) : F → List F
  | lt n s => [lt n s]
  | nd l fs => if l = k then fs else [nd l fs]
theorem parts_nd (k l : Kd) (fs : List F) : parts k (nd l fs) = if l = k then fs else [nd l fs] := rfl
def gath (k : Kd) (x y : F) : F := nd k (srt (parts k x ++ parts k y))
/-- all ("both", x, y) -/
def prod (k o : Kd) (x y : F) : List F := (parts o x).flatMap fun l => (parts o y).map fun r => gath k l r
def mk (o : Kd) (found : List F) : F := match found with
  | [x] => x
  | fs => nd o (srt fs)
def comb (k : Kd) (x y : F) : F := match k.over with
  | none => gath k x y
  | some o => mk o (prod k o x y)
end F
open F
def norm : W → F
  | .lt n s => .lt n s
  | .nd k a b => comb k (norm a) (norm b)

namespace F
theorem parts_ne {k : Kd} {f : F} (h : pos f) : parts k f ≠ [] := by
  cases f with
  | lt n s => simp [parts]
  | nd l fs =>
    have h : fs ≠ [] ∧ poss fs := by simpa only [pos] using h
    rw [parts_nd]
    split
    · exact h.1
    · simp
theorem parts_pos {k : Kd} {f : F} (h : pos f) : ∀ g ∈ parts k f, pos g := by
  cases f with
  | lt n s => intro g hg; rw [parts, List.mem_singleton] at hg; rw [hg]; exact h
  | nd l fs =>
    have h' : fs ≠ [] ∧ poss fs := by simpa only [pos] using h
    rw [parts_nd]
    split
    · exact poss_iff.mp h'.2
    · intro g hg; rw [List.mem_singleton] at hg; rw [hg]; exact h
theorem parts_ok {L : List Str} {k : Kd} {f : F} (h : ok L f) : ∀ g ∈ parts k f, ok L g := by
  cases f with
  | lt n s => intro g hg; rw [parts, List.mem_singleton] at hg; rw [hg]; exact h
  | nd l fs =>
    have h' : oks L fs := by simpa only [ok] using h
    rw [parts_nd]
    split
    · exact oks_iff.mp h'
    · intro g hg; rw [List.mem_singleton] at hg; rw [hg]; exact h
theorem parts_depth {k : Kd} {f : F} : ∀ g ∈ parts k f, depth g ≤ depth f := by
  cases f with
  | lt n s => intro g hg; rw [parts, List.mem_singleton] at hg; rw [hg]; exact Nat.le_refl _
  | nd l fs =>
    rw [parts_nd]
    split
    · intro g hg; have := mem_depth hg; rw [depth]; omega
    · intro g hg; rw [List.mem_singleton] at hg; rw [hg]; exact Nat.le_refl _
theorem parts_size (k : Kd) (f : F) : sizes (parts k f) = size f := by
  cases f with
  | lt n s => rfl
  | nd l fs =>
    rw [parts_nd]
    split
    · rfl
    · simp [sizes]
theorem parts_len {k : Kd} {f : F} (h : pos f) : (parts k f).length ≤ size f := by
  rw [← parts_size k f]
  exact sizes_len _ (poss_iff.mpr (parts_pos h))
theorem mem_prod {k o : Kd} {x y g : F} : g ∈ prod k o x y ↔ ∃ l ∈ parts o x, ∃ r ∈ parts o y, gath k l r = g := by
  unfold prod
  simp [List.mem_flatMap]
theorem gath_pos {k : Kd} {x y : F} (hx : pos x) (hy : pos y) : pos (gath k x y) := by
  rw [gath, pos]
  refine ⟨fun z => ?_, poss_iff.mpr fun g hg => ?_⟩
  · have z2 := congrArg List.length z
    rw [srt_length, List.length_append] at z2
    have := parts_ne (k := k) hx
    cases q : parts k x with
    | nil => exact this q
    | cons a l => rw [q] at z2; simp at z2
  · rcases List.mem_append.mp (srt_mem.mp hg) with h | h
    · exact parts_pos hx g h
    · exact parts_pos hy g h
theorem gath_ok {L : List Str} {k : Kd} {x y : F} (hx : ok L x) (hy : ok L y) : ok L (gath k x y) := by
  rw [gath, ok]
  refine oks_iff.mpr fun g hg => ?_
  rcases List.mem_append.mp (srt_mem.mp hg) with h | h
  · exact parts_ok hx g h
  · exact parts_ok hy g h
theorem gath_size (k : Kd) (x y : F) : size (gath k x y) = size x + size y := by
  rw [gath, size, sizes_perm (srt_perm _), sizes_append, parts_size, parts_size]
theorem gath_depth (k : Kd) (x y : F) : depth (gath k x y) ≤ 1 + max (depth x) (depth y) := by
  rw [gath, depth]
  have h : depths (srt (parts k x ++ parts k y)) ≤ max (depth x) (depth y) := depths_iff.mpr fun g hg => by
    rcases List.mem_append.mp (srt_mem.mp hg) with h | h
    · have := parts_depth g h; omega
    · have := parts_depth g h; omega
  omega
theorem prod_size (k o : Kd) (x y : F) : sizes (prod k o x y) = (parts o y).length * size x + (parts o x).length * size y := by
  have inner : ∀ (l : F) (ys : List F), sizes (ys.map fun r => gath k l r) = ys.length * size l + sizes ys := by
    intro l ys
    induction ys with
    | nil => simp [sizes]
    | cons y ys ih => rw [List.map_cons, sizes, ih, gath_size, List.length_cons, sizes, Nat.succ_mul]; omega
  have outer : ∀ (xs ys : List F), sizes (xs.flatMap fun l => ys.map fun r => gath k l r) = ys.length * sizes xs + xs.length * sizes ys := by
    intro xs ys
    induction xs with
    | nil => simp [sizes]
    | cons x xs ih => rw [List.flatMap_cons, sizes_append, ih, inner, List.length_cons, sizes, Nat.mul_add, Nat.succ_mul]; omega
  unfold prod
  rw [outer, parts_size, parts_size]
theorem prod_length (k o : Kd) (x y : F) : (prod k o x y).length = (parts o x).length * (parts o y).length := by
  unfold prod
  induction parts o x with
  | nil => simp
  | cons a l ih => rw [List.flatMap_cons, List.length_append, ih, List.length_map, List.length_cons, Nat.succ_mul]; omega
theorem mk_one (o : Kd) (x : F) : mk o [x] = x := rfl
theorem mk_many {o : Kd} {fs : List F} (h : fs.length ≠ 1) : mk o fs = nd o (srt fs) := by
  match fs, h with
  | [], _ => rfl
  | [_], h => exact absurd rfl h
  | _ :: _ :: _, _ => rfl
theorem mk_congr {o : Kd} {fs gs : List F} (p : fs.Perm gs) : mk o fs = mk o gs := by
  by_cases h : fs.length = 1
  · match fs, h with
    | [x], _ =>
      rw [List.perm_singleton.mp p.symm]
  · rw [mk_many h, mk_many (by rw [← p.length_eq]; exact h), srt_congr p]
theorem mk_cases (o : Kd) (fs : List F) : (∃ x, fs = [x] ∧ mk o fs = x) ∨ (fs.length ≠ 1 ∧ mk o fs = nd o (srt fs)) := by
  by_cases h : fs.length = 1
  · match fs, h with
    | [x], _ => exact .inl ⟨x, rfl, rfl⟩
  · exact .inr ⟨h, mk_many h⟩
theorem mk_size (o : Kd) (fs : List F) : size (mk o fs) = sizes fs := by
  rcases mk_cases o fs with ⟨x, rfl, e⟩ | ⟨_, e⟩
  · rw [e]; simp [sizes]
  · rw [e, size, sizes_perm (srt_perm _)]
theorem comb_size_choice {k : Kd} (h : k.over = none) (x y : F) : size (comb k x y) = size x + size y := by
  unfold comb; rw [h]; exact gath_size k x y
theorem comb_size_spread {k o : Kd} (h : k.over = some o) (x y : F) : size (comb k x y) = (parts o y).length * size x + (parts o x).length * size y := by
  unfold comb; rw [h]
  show size (mk o (prod k o x y)) = _
  rw [mk_size, prod_size]
theorem comb_pos {k : Kd} {x y : F} (hx : pos x) (hy : pos y) : pos (comb k x y) := by
  unfold comb
  split
  · exact gath_pos hx hy
  · rename_i o _
    have all : ∀ g ∈ prod k o x y, pos g := fun g hg => by
      obtain ⟨l, hl, r, hr, rfl⟩ := mem_prod.mp hg
      exact gath_pos (parts_pos hx l hl) (parts_pos hy r hr)
    rcases mk_cases o (prod k o x y) with ⟨z, e1, e⟩ | ⟨_, e⟩
    · rw [e]; exact all z (by rw [e1]; exact List.mem_singleton.mpr rfl)
    · rw [e, pos]
      refine ⟨fun z => ?_, poss_iff.mpr fun g hg => all g (srt_mem.mp hg)⟩
      have z2 := congrArg List.length z
      rw [srt_length, prod_length] at z2
      have h1 : 1 ≤ (parts o x).length := by
        cases q : parts o x with
        | nil => exact absurd q (parts_ne hx)
        | cons _ _ => simp
      have h2 : 1 ≤ (parts o y).length := by
        cases q : parts o y with
        | nil => exact absurd q (parts_ne hy)
        | cons _ _ => simp
      have h3 := Nat.mul_le_mul h1 h2
      rw [List.length_nil] at z2
      omega
theorem comb_ok {L : List Str} {k : Kd} {x y : F} (hx : ok L x) (hy : ok L y) : ok L (comb k x y) := by
  unfold comb
  split
  · exact gath_ok hx hy
  · rename_i o _
    have all : ∀ g ∈ prod k o x y, ok L g := fun g hg => by
      obtain ⟨l, hl, r, hr, rfl⟩ := mem_prod.mp hg
      exact gath_ok (parts_ok hx l hl) (parts_ok hy r hr)
    rcases mk_cases o (prod k o x y) with ⟨z, e1, e⟩ | ⟨_, e⟩
    · rw [e]; exact all z (by rw [e1]; exact List.mem_singleton.mpr rfl)
    · rw [e, ok]
      exact oks_iff.mpr fun g hg => all g (srt_mem.mp hg)
theorem comb_depth (k : Kd) (x y : F) : depth (comb k x y) ≤ 2 + max (depth x) (depth y) := by
  unfold comb
  split
  · have := gath_depth k x y; omega
  · rename_i o _
    have all : ∀ g ∈ prod k o x y, depth g ≤ 1 + max (depth x) (depth y) := fun g hg => by
      obtain ⟨l, hl, r, hr, rfl⟩ := mem_prod.mp hg
      have h1 := parts_depth l hl
      have h2 := parts_depth r hr
      have h3 := gath_depth k l r
      omega
    rcases mk_cases o (prod k o x y) with ⟨z, e1, e⟩ | ⟨_, e⟩
    · rw [e]; have := all z (by rw [e1]; exact List.mem_singleton.mpr rfl); omega
    · rw [e, depth]
      have h : depths (srt (prod k o x y)) ≤ 1 + max (depth x) (depth y) := depths_iff.mpr fun g hg => all g (srt_mem.mp hg)
      omega
end F
theorem norm_pos : ∀ w : W, pos (norm w)
  | .lt _ _ => by simp [norm, pos]
  | .nd k a b => comb_pos (norm_pos a) (norm_pos b)
theorem norm_ok {L : List Str} : ∀ {w : W}, w.ok L → F.ok L (norm w)
  | .lt _ _, h => by rw [norm, F.ok]; exact h.1
  | .nd k a b, h => comb_ok (norm_ok h.1) (norm_ok h.2)
theorem norm_depth : ∀ w : W, depth (norm w) + 1 ≤ 2 * w.depth
  | .lt _ _ => by simp [norm, depth, W.depth]
  | .nd k a b => by
    have h1 := norm_depth a
    have h2 := norm_depth b
    have h3 := comb_depth k (norm a) (norm b)
    show depth (comb k (norm a) (norm b)) + 1 ≤ 2 * (1 + max a.depth b.depth)
    omega
theorem len_pos {k : Kd} {f : F} (h : pos f) : 1 ≤ (parts k f).length := by
  cases q : parts k f with
  | nil => exact absurd q (parts_ne h)
  | cons _ _ => simp
/-- the size of a side is at most that of the whole -/
theorem comb_mono {k : Kd} {x y : F} (hx : pos x) (hy : pos y) : size x ≤ size (comb k x y) ∧ size y ≤ size (comb k x y) := by
  cases q : k.over with
  | none => rw [comb_size_choice q]; omega
  | some o =>
    rw [comb_size_spread q]
    have h1 := Nat.mul_le_mul_right (size x) (len_pos (k := o) hy)
    have h2 := Nat.mul_le_mul_right (size y) (len_pos (k := o) hx)
    omega
theorem norm_size : ∀ w : W, 2 * size (norm w) ≤ 2 ^ w.letters
  | .lt _ _ => by simp [norm, size, W.letters]
  | .nd k a b => by
    have h1 := norm_size a
    have h2 := norm_size b
    have pa := norm_pos a
    have pb := norm_pos b
    have sa := size_pos _ pa
    have sb := size_pos _ pb
    have h3 := Nat.mul_le_mul h1 h2
    show 2 * size (comb k (norm a) (norm b)) ≤ 2 ^ (a.letters + b.letters)
    rw [Nat.pow_add]
    have e : 2 * size (norm a) * (2 * size (norm b)) = 2 * (2 * (size (norm a) * size (norm b))) := by
      rw [Nat.mul_assoc, Nat.mul_left_comm (size (norm a)) 2]
    have bound : size (comb k (norm a) (norm b)) ≤ 2 * (size (norm a) * size (norm b)) := by
      cases q : k.over with
      | none =>
        rw [comb_size_choice q]
        have g1 := Nat.mul_le_mul_left (size (norm a)) sb
        have g2 := Nat.mul_le_mul_right (size (norm b)) sa
        omega
      | some o =>
        rw [comb_size_spread q]
        have g1 := Nat.mul_le_mul_right (size (norm a)) (parts_len (k := o) pb)
        have g2 := Nat.mul_le_mul_right (size (norm b)) (parts_len (k := o) pa)
        rw [Nat.mul_comm (size (norm b))] at g1
        omega
    omega

/-! ### the laws of normal forms -/
theorem parts_nd_same (k : Kd) (fs : List F) : parts k (nd k fs) = fs := by rw [parts_nd, if_pos rfl]
theorem parts_nd_other {k l : Kd} (h : l ≠ k) (fs : List F) : parts k (nd l fs) = [nd l fs] := by rw [parts_nd, if_neg h]
theorem parts_gath (k : Kd) (x y : F) : (parts k (gath k x y)).Perm (parts k x ++ parts k y) := by
  unfold gath
  rw [parts_nd_same]
  exact srt_perm _
theorem gath_congr {k : Kd} {x y x' y' : F} (h : (parts k x ++ parts k y).Perm (parts k x' ++ parts k y')) : gath k x y = gath k x' y' := by
  unfold gath
  rw [srt_congr h]
theorem gath_comm (k : Kd) (x y : F) : gath k x y = gath k y x := gath_congr List.perm_append_comm
theorem gath_assoc (k : Kd) (x y z : F) : gath k (gath k x y) z = gath k x (gath k y z) := by
  refine gath_congr ?_
  refine ((parts_gath k x y).append_right _).trans ?_
  rw [List.append_assoc]
  exact ((parts_gath k y z).symm).append_left _
theorem over_ne {k o : Kd} (h : k.over = some o) : k ≠ o := by cases k <;> cases h <;> decide
theorem over_over {k o : Kd} (h : k.over = some o) : o.over = none := by cases k <;> cases h <;> rfl
theorem parts_mk {k o : Kd} (h : k ≠ o) (x y : F) : (parts o (mk o (prod k o x y))).Perm (prod k o x y) := by
  rcases mk_cases o (prod k o x y) with ⟨z, e1, e⟩ | ⟨_, e⟩
  · rw [e, e1]
    have hz : z ∈ prod k o x y := by rw [e1]; exact List.mem_singleton.mpr rfl
    obtain ⟨l, hl, r, hr, rfl⟩ := mem_prod.mp hz
    unfold gath
    rw [parts_nd_other h]
  · rw [e, parts_nd_same]
    exact srt_perm _
theorem flatMap_comm {α β γ : Type} (f : α → β → γ) : ∀ (xs : List α) (ys : List β), (xs.flatMap fun x => ys.map fun y => f x y).Perm (ys.flatMap fun y => xs.map fun x => f x y)
  | [], ys => by
    have e : (ys.flatMap fun y => ([] : List α).map fun x => f x y) = [] := by induction ys with
      | nil => rfl
      | cons y ys ih => rw [List.flatMap_cons, ih]; rfl
    rw [e]
    exact List.Perm.refl _
  | x :: xs, ys => by
    rw [List.flatMap_cons]
    refine ((flatMap_comm f xs ys).append_left _).trans ?_
    induction ys with
    | nil => exact List.Perm.refl _
    | cons y ys ih =>
      rw [List.map_cons, List.flatMap_cons, List.flatMap_cons, List.map_cons, List.cons_append, List.cons_append]
      refine List.Perm.cons _ ?_
      refine List.Perm.trans ?_ (ih.append_left _)
      rw [← List.append_assoc, ← List.append_assoc]
      exact List.perm_append_comm.append_right _
theorem flatMap_perm {α β : Type} {f g : α → List β} : ∀ {xs : List α}, (∀ x ∈ xs, (f x).Perm (g x)) → (xs.flatMap f).Perm (xs.flatMap g)
  | [], _ => List.Perm.refl _
  | x :: xs, h => by
    rw [List.flatMap_cons, List.flatMap_cons]
    exact (h x List.mem_cons_self).append (flatMap_perm fun y hy => h y (List.mem_cons_of_mem _ hy))
theorem prod_comm (k o : Kd) (x y : F) : (prod k o x y).Perm (prod k o y x) := by
  unfold prod
  refine (flatMap_comm (fun l r => gath k l r) (parts o x) (parts o y)).trans ?_
  refine flatMap_perm fun r _ => ?_
  rw [show (fun l => gath k l r) = (fun l => gath k r l) from funext fun l => gath_comm k l r]
/-- products of lists of forms -/
def pr (k : Kd) (xs ys : List F) : List F := xs.flatMap fun l => ys.map fun r => gath k l r
theorem prod_eq (k o : Kd) (x y : F) : prod k o x y = pr k (parts o x) (parts o y) := rfl
theorem pr_congr {k : Kd} {xs xs' ys ys' : List F} (h1 : xs.Perm xs') (h2 : ys.Perm ys') : (pr k xs ys).Perm (pr k xs' ys') := by
  unfold pr
  exact (h1.flatMap_right _).trans (flatMap_perm fun l _ => h2.map _)
theorem pr_append (k : Kd) (xs xs' ys : List F) : pr k (xs ++ xs') ys = pr k xs ys ++ pr k xs' ys := by
  unfold pr
  rw [List.flatMap_append]
theorem pr_assoc (k : Kd) (xs ys zs : List F) : pr k (pr k xs ys) zs = pr k xs (pr k ys zs) := by
  unfold pr
  induction xs with
  | nil => rfl
  | cons x xs ih =>
    rw [List.flatMap_cons, List.flatMap_append, ih, List.flatMap_cons]
    congr 1
    clear ih
    induction ys with
    | nil => rfl
    | cons y ys ih =>
      rw [List.map_cons, List.flatMap_cons, ih, List.flatMap_cons, List.map_append, List.map_map]
      congr 1
      refine List.map_congr_left fun z _ => ?_
      show gath k (gath k x y) z = gath k x (gath k y z)
      exact gath_assoc k x y z
theorem comb_none {k : Kd} (h : k.over = none) (x y : F) : comb k x y = gath k x y := by unfold comb; rw [h]
theorem comb_some {k o : Kd} (h : k.over = some o) (x y : F) : comb k x y = mk o (pr k (parts o x) (parts o y)) := by unfold comb; rw [h]; rfl
theorem comb_comm (k : Kd) (x y : F) : comb k x y = comb k y x := by
  cases q : k.over with
  | none => rw [comb_none q, comb_none q, gath_comm]
  | some o => rw [comb_some q, comb_some q]; exact mk_congr (prod_comm k o x y)
theorem parts_comb {k o : Kd} (h : k.over = some o) (x y : F) : (parts o (comb k x y)).Perm (pr k (parts o x) (parts o y)) := by
  rw [comb_some h]
  exact parts_mk (over_ne h) x y
theorem comb_assoc (k : Kd) (x y z : F) : comb k (comb k x y) z = comb k x (comb k y z) := by
  cases q : k.over with
  | none => rw [comb_none q, comb_none q, comb_none q, comb_none q, gath_assoc]
  | some o =>
    rw [comb_some q (comb k x y) z, comb_some q x (comb k y z)]
    refine mk_congr ?_
    refine (pr_congr (parts_comb q x y) (List.Perm.refl _)).trans ?_
    rw [pr_assoc]
    exact pr_congr (List.Perm.refl _) (parts_comb q y z).symm
theorem pr_len (k : Kd) (xs ys : List F) : (pr k xs ys).length = xs.length * ys.length := by
  unfold pr
  induction xs with
  | nil => simp
  | cons a l ih => rw [List.flatMap_cons, List.length_append, ih, List.length_map, List.length_cons, Nat.succ_mul]; omega
/-- both over mine, either over theirs -/
theorem comb_distrib {k o : Kd} (h : k.over = some o) {x y z : F} (px : pos x) (py : pos y) (pz : pos z) : comb k (comb o x y) z = comb o (comb k x z) (comb k y z) := by
  have ho := over_over h
  rw [comb_none ho x y, comb_none ho (comb k x z), comb_some h]
  have h1 : (pr k (parts o (gath o x y)) (parts o z)).Perm (pr k (parts o x) (parts o z) ++ pr k (parts o y) (parts o z)) := by
    refine (pr_congr (parts_gath o x y) (List.Perm.refl _)).trans ?_
    rw [pr_append]
  rw [mk_congr h1, mk_many]
  · unfold gath
    rw [srt_congr]
    exact (parts_comb h x z).symm.append (parts_comb h y z).symm
  · rw [List.length_append, pr_len, pr_len]
    have a1 := Nat.mul_le_mul (len_pos (k := o) px) (len_pos (k := o) pz)
    have a2 := Nat.mul_le_mul (len_pos (k := o) py) (len_pos (k := o) pz)
    omega
theorem comb_distrib' {k o : Kd} (h : k.over = some o) {x y z : F} (px : pos x) (py : pos y) (pz : pos z) : comb k x (comb o y z) = comb o (comb k x y) (comb k x z) := by
  rw [comb_comm k x, comb_distrib h py pz px, comb_comm k y x, comb_comm k z x]

/-! ### turned -/
theorem turn_nd (k : Kd) (fs : List F) : turn (nd k fs) = nd k.dual (srt (fs.map turn)) := by rw [turn, turns_map]
theorem parts_turn (k : Kd) (f : F) : (parts k.dual (turn f)).Perm ((parts k f).map turn) := by
  cases f with
  | lt n s => exact List.Perm.refl _
  | nd l fs =>
    rw [turn_nd]
    by_cases h : l = k
    · subst h
      rw [parts_nd_same, parts_nd_same]
      exact srt_perm _
    · rw [parts_nd_other (fun e => h (Kd.dual_inj e)), parts_nd_other h, List.map_cons, turn_nd]
      exact List.Perm.refl _
theorem gath_turn (k : Kd) (x y : F) : gath k.dual (turn x) (turn y) = turn (gath k x y) := by
  unfold gath
  rw [turn_nd, srt_map_srt, List.map_append]
  rw [srt_congr ((parts_turn k x).append (parts_turn k y))]
theorem over_dual (k : Kd) : k.dual.over = k.over.map Kd.dual := by cases k <;> rfl
theorem pr_turn (k : Kd) (xs ys : List F) : pr k.dual (xs.map turn) (ys.map turn) = (pr k xs ys).map turn := by
  unfold pr
  induction xs with
  | nil => rfl
  | cons x xs ih =>
    rw [List.map_cons, List.flatMap_cons, ih, List.flatMap_cons, List.map_append, List.map_map, List.map_map]
    congr 1
    exact List.map_congr_left fun z _ => gath_turn k x z
theorem mk_turn (o : Kd) (fs : List F) : mk o.dual (fs.map turn) = turn (mk o fs) := by
  rcases mk_cases o fs with ⟨z, rfl, e⟩ | ⟨h, e⟩
  · rw [e]; rfl
  · rw [e, turn_nd, srt_map_srt, mk_many (by rw [List.length_map]; exact h)]
theorem comb_turn (k : Kd) (x y : F) : comb k.dual (turn x) (turn y) = turn (comb k x y) := by
  cases q : k.over with
  | none =>
    have q2 : k.dual.over = none := by rw [over_dual, q]; rfl
    rw [comb_none q, comb_none q2, gath_turn]
  | some o =>
    have q2 : k.dual.over = some o.dual := by rw [over_dual, q]; rfl
    rw [comb_some q, comb_some q2, ← mk_turn, ← pr_turn]
    exact mk_congr (pr_congr (parts_turn o x) (parts_turn o y))
theorem norm_turn : ∀ w : W, norm w.turn = turn (norm w)
  | .lt _ _ => rfl
  | .nd k a b => by
    show comb k.dual (norm a.turn) (norm b.turn) = turn (comb k (norm a) (norm b))
    rw [norm_turn a, norm_turn b, comb_turn]

/-! ### changes that keep words alike -/
structure Alk (L : List Str) (w v : W) : Prop where
  nrm : norm v = norm w
  cnt : v.cnt = w.cnt
  dep : v.depth ≤ w.depth + 1
  okk : w.ok L → v.ok L
theorem Alk.refl (L : List Str) (w : W) : Alk L w w := ⟨rfl, rfl, Nat.le_succ _, fun h => h⟩
theorem cnt_nd (k : Kd) (a b c d : W) (h1 : a.cnt = b.cnt) (h2 : c.cnt = d.cnt) : (W.nd k a c).cnt = (W.nd k b d).cnt := by
  cases k <;> simp only [W.cnt, h1, h2]
theorem Alk.left {L : List Str} {k : Kd} {a a' b : W} (h : Alk L a a') : Alk L (.nd k a b) (.nd k a' b) :=
  ⟨by show comb k (norm a') (norm b) = comb k (norm a) (norm b); rw [h.nrm], cnt_nd k _ _ _ _ h.cnt rfl, by have := h.dep; show 1 + max a'.depth b.depth ≤ 1 + max a.depth b.depth + 1; omega, fun o => ⟨h.okk o.1, o.2⟩⟩
theorem Alk.right {L : List Str} {k : Kd} {a b b' : W} (h : Alk L b b') : Alk L (.nd k a b) (.nd k a b') :=
  ⟨by show comb k (norm a) (norm b') = comb k (norm a) (norm b); rw [h.nrm], cnt_nd k _ _ _ _ rfl h.cnt, by have := h.dep; show 1 + max a.depth b'.depth ≤ 1 + max a.depth b.depth + 1; omega, fun o => ⟨o.1, h.okk o.2⟩⟩
section
variable (L : List Str) (k o : Kd) (a b c : W)
theorem mv_sides : Alk L (.nd k a b) (.nd k b a) :=
  ⟨comb_comm k _ _, by cases k <;> simp only [W.cnt] <;> first | exact Nat.add_comm _ _ | exact Nat.mul_comm _ _, by show 1 + max b.depth a.depth ≤ 1 + max a.depth b.depth + 1; omega, fun h => ⟨h.2, h.1⟩⟩
theorem mv_right : Alk L (.nd k (.nd k a b) c) (.nd k a (.nd k b c)) :=
  ⟨(comb_assoc k _ _ _).symm, by cases k <;> simp only [W.cnt] <;> first | exact (Nat.add_assoc _ _ _).symm | exact (Nat.mul_assoc _ _ _).symm,
    by show 1 + max a.depth (1 + max b.depth c.depth) ≤ 1 + max (1 + max a.depth b.depth) c.depth + 1; omega, fun h => ⟨h.1.1, h.1.2, h.2⟩⟩
theorem mv_left : Alk L (.nd k a (.nd k b c)) (.nd k (.nd k a b) c) :=
  ⟨comb_assoc k _ _ _, by cases k <;> simp only [W.cnt] <;> first | exact Nat.add_assoc _ _ _ | exact Nat.mul_assoc _ _ _,
    by show 1 + max (1 + max a.depth b.depth) c.depth ≤ 1 + max a.depth (1 + max b.depth c.depth) + 1; omega, fun h => ⟨⟨h.1, h.2.1⟩, h.2.2⟩⟩
variable {k o}
theorem mv_over1 (h : k.over = some o) : Alk L (.nd k (.nd o a b) c) (.nd o (.nd k a c) (.nd k b c)) :=
  ⟨(comb_distrib h (norm_pos a) (norm_pos b) (norm_pos c)).symm, by cases k <;> cases h <;> simp only [W.cnt] <;> exact (Nat.add_mul _ _ _).symm,
    by show 1 + max (1 + max a.depth c.depth) (1 + max b.depth c.depth) ≤ 1 + max (1 + max a.depth b.depth) c.depth + 1; omega, fun h => ⟨⟨h.1.1, h.2⟩, h.1.2, h.2⟩⟩
theorem mv_over2 (h : k.over = some o) : Alk L (.nd k a (.nd o b c)) (.nd o (.nd k a b) (.nd k a c)) :=
  ⟨(comb_distrib' h (norm_pos a) (norm_pos b) (norm_pos c)).symm, by cases k <;> cases h <;> simp only [W.cnt] <;> exact (Nat.mul_add _ _ _).symm,
    by show 1 + max (1 + max a.depth b.depth) (1 + max a.depth c.depth) ≤ 1 + max a.depth (1 + max b.depth c.depth) + 1; omega, fun h => ⟨⟨h.1, h.2.1⟩, h.1, h.2.2⟩⟩
theorem mv_back (h : k.over = some o) : Alk L (.nd o (.nd k a b) (.nd k a c)) (.nd k a (.nd o b c)) :=
  ⟨comb_distrib' h (norm_pos a) (norm_pos b) (norm_pos c), by cases k <;> cases h <;> simp only [W.cnt] <;> exact Nat.mul_add _ _ _,
    by show 1 + max a.depth (1 + max b.depth c.depth) ≤ 1 + max (1 + max a.depth b.depth) (1 + max a.depth c.depth) + 1; omega, fun h => ⟨h.1.1, h.1.2, h.2.2⟩⟩
end
/-- what the law lets through -/
def Let (w : W) : Prop := w.letters < 25 ∧ w.depth < 9 ∧ size (norm w) < 201
instance (w : W) : Decidable (Let w) := by unfold Let; exact inferInstance
theorem let_turn {w : W} (h : Let w) : Let w.turn := by
  refine ⟨by rw [W.turn_letters]; exact h.1, by rw [W.turn_depth]; exact h.2.1, ?_⟩
  rw [norm_turn, turn_size]
  exact h.2.2
theorem norm_give (k : Kd) {v w m : W} (h : norm v = norm w) : norm (.nd k w m) = norm (.nd k m v) := by
  show comb k (norm w) (norm m) = comb k (norm m) (norm v)
  rw [h, comb_comm]
end K78
set_option Elab.async false
set_option linter.all false
set_option maxRecDepth 100000
/-! K78, part 2: forms in a heap, their comparison, sorted of them. -/
namespace K78
open PySem PySem.Spec PyProof.Rows L2

/-! ### data of words and forms -/
def strOk7 (L : List Str) : Prop := ∀ x ∈ L, PyData.strOk x = true
theorem kd_strOk (k : Kd) : PyData.strOk k.name = true := by cases k <;> decide +kernel
theorem let_strOk : PyData.strOk ("letter" : Str) = true := by decide +kernel
namespace F
mutual
theorem data_lay {L : List Str} (hL : strOk7 L) : ∀ f : F, ok L f → (data f).canLay0 = true
  | lt n s, h => by
    simp only [data, PyData.canLay0, PyData.canLayAll0, let_strOk, hL n h, Bool.and_self]
  | nd k fs, h => by
    have h : oks L fs := by simpa only [ok] using h
    simp only [data, PyData.canLay0, PyData.canLayAll0, kd_strOk, datas_lay hL fs h, Bool.and_self]
theorem datas_lay {L : List Str} (hL : strOk7 L) : ∀ fs : List F, oks L fs → PyData.canLayAll0 (datas fs) = true
  | [], _ => by simp only [datas, PyData.canLayAll0]
  | f :: fs, h => by
    have h : ok L f ∧ oks L fs := by simpa only [oks] using h
    simp only [datas, PyData.canLayAll0, data_lay hL f h.1, datas_lay hL fs h.2, Bool.and_self]
end
mutual
theorem data_depth : ∀ f : F, (data f).depth ≤ 2 * depth f
  | lt n s => by simp [data, PyData.depth, PyData.depthAll, depth]
  | nd k fs => by
    have h := datas_depth fs
    simp only [data, PyData.depth, PyData.depthAll, depth]
    omega
theorem datas_depth : ∀ fs : List F, PyData.depthAll (datas fs) ≤ 2 * depths fs
  | [] => by simp [datas, PyData.depthAll]
  | f :: fs => by
    have h1 := data_depth f
    have h2 := datas_depth fs
    simp only [datas, PyData.depthAll, depths]
    omega
end
theorem eqv_tup (xs ys : List PyData) : PyData.eqv (.tuple xs) (.tuple ys) = PyData.eqvAll xs ys := by simp only [PyData.eqv]
theorem eqv_cons (x y : PyData) (xs ys : List PyData) : PyData.eqvAll (x :: xs) (y :: ys) = (PyData.eqv x y && PyData.eqvAll xs ys) := by rw [PyData.eqvAll]
theorem eqv_nil : PyData.eqvAll [] [] = true := by rw [PyData.eqvAll]
theorem eqv_nil1 (x : PyData) (xs : List PyData) : PyData.eqvAll [] (x :: xs) = false := by rw [PyData.eqvAll]
theorem eqv_nil2 (x : PyData) (xs : List PyData) : PyData.eqvAll (x :: xs) [] = false := by rw [PyData.eqvAll]
theorem eqv_str (a b : Str) : PyData.eqv (.str a) (.str b) = decide (a = b) := by
  simp only [PyData.eqv]
  exact Bool.eq_iff_iff.mpr (by simp)
theorem eqv_int (a b : Int) : PyData.eqv (.int a) (.int b) = decide (a = b) := by
  simp only [PyData.eqv]
  exact Bool.eq_iff_iff.mpr (by simp)
theorem data_lt (n : Str) (s : Int) : data (lt n s) = .tuple [.str "letter", .str n, .int s] := by rw [data]
theorem data_nd (k : Kd) (fs : List F) : data (nd k fs) = .tuple [.str k.name, .tuple (datas fs)] := by rw [data]
mutual
theorem data_eqv : ∀ f g : F, PyData.eqv (data f) (data g) = decide (f = g)
  | lt n s, lt m r => by
    rw [data_lt, data_lt, eqv_tup, eqv_cons, eqv_cons, eqv_cons, eqv_nil, eqv_str, eqv_str, eqv_int, Bool.eq_iff_iff]
    simp
  | lt n s, nd k fs => by
    have q : PyData.eqv (.str "letter") (.str k.name) = false := by rw [eqv_str]; exact decide_eq_false fun z => k.name_ne z.symm
    rw [data_lt, data_nd, eqv_tup, eqv_cons, q, Bool.false_and]
    exact (decide_eq_false (fun z => nomatch z)).symm
  | nd k fs, lt n s => by
    have q : PyData.eqv (.str k.name) (.str "letter") = false := by rw [eqv_str]; exact decide_eq_false fun z => k.name_ne z
    rw [data_lt, data_nd, eqv_tup, eqv_cons, q, Bool.false_and]
    exact (decide_eq_false (fun z => nomatch z)).symm
  | nd k fs, nd l gs => by
    rw [data_nd, data_nd, eqv_tup, eqv_cons, eqv_cons, eqv_nil, eqv_str, eqv_tup, datas_eqv fs gs, Bool.and_true, Bool.eq_iff_iff, Bool.and_eq_true, decide_eq_true_eq, decide_eq_true_eq, decide_eq_true_eq]
    constructor
    · rintro ⟨a, rfl⟩
      rw [Kd.name_inj a]
    · intro z
      injection z with z1 z2
      subst z1 z2
      exact ⟨rfl, rfl⟩
theorem datas_eqv : ∀ fs gs : List F, PyData.eqvAll (datas fs) (datas gs) = decide (fs = gs)
  | [], [] => by rw [datas, eqv_nil, decide_eq_true rfl]
  | [], _ :: _ => by rw [datas, datas, eqv_nil1, decide_eq_false (fun z => nomatch z)]
  | _ :: _, [] => by rw [datas, datas, eqv_nil2, decide_eq_false (fun z => nomatch z)]
  | f :: fs, g :: gs => by
    rw [datas, datas, eqv_cons, data_eqv f g, datas_eqv fs gs, Bool.eq_iff_iff]
    simp
end
end F
namespace W
theorem data_lay {L : List Str} (hL : strOk7 L) : ∀ w : W, ok L w → (data w).canLay0 = true
  | lt n s, h => by simp only [data, PyData.canLay0, PyData.canLayAll0, let_strOk, hL n h.1, Bool.and_self]
  | nd k a b, h => by simp only [data, PyData.canLay0, PyData.canLayAll0, kd_strOk, data_lay hL a h.1, data_lay hL b h.2, Bool.and_self]
theorem data_depth : ∀ w : W, (data w).depth ≤ depth w
  | lt n s => by simp [data, PyData.depth, PyData.depthAll, depth]
  | nd k a b => by
    have h1 := data_depth a
    have h2 := data_depth b
    simp only [data, PyData.depth, PyData.depthAll, depth]
    omega
theorem data_lt (n : Str) (s : Int) : data (lt n s) = .tuple [.str "letter", .str n, .int s] := by rw [data]
theorem data_nd (k : Kd) (a b : W) : data (nd k a b) = .tuple [.str k.name, a.data, b.data] := by rw [data]
theorem data_eqv : ∀ f g : W, PyData.eqv (data f) (data g) = decide (f = g)
  | lt n s, lt m r => by
    rw [data_lt, data_lt, F.eqv_tup, F.eqv_cons, F.eqv_cons, F.eqv_cons, F.eqv_nil, F.eqv_str, F.eqv_str, F.eqv_int, Bool.eq_iff_iff]
    simp
  | lt n s, nd k a b => by
    have q : PyData.eqv (.str "letter") (.str k.name) = false := by rw [F.eqv_str]; exact decide_eq_false fun z => k.name_ne z.symm
    rw [data_lt, data_nd, F.eqv_tup, F.eqv_cons, q, Bool.false_and]
    exact (decide_eq_false (fun z => nomatch z)).symm
  | nd k a b, lt n s => by
    have q : PyData.eqv (.str k.name) (.str "letter") = false := by rw [F.eqv_str]; exact decide_eq_false fun z => k.name_ne z
    rw [data_lt, data_nd, F.eqv_tup, F.eqv_cons, q, Bool.false_and]
    exact (decide_eq_false (fun z => nomatch z)).symm
  | nd k a b, nd l c d => by
    rw [data_nd, data_nd, F.eqv_tup, F.eqv_cons, F.eqv_cons, F.eqv_cons, F.eqv_nil, F.eqv_str, data_eqv a c, data_eqv b d, Bool.and_true, Bool.eq_iff_iff, Bool.and_eq_true, Bool.and_eq_true, decide_eq_true_eq, decide_eq_true_eq, decide_eq_true_eq, decide_eq_true_eq]
    constructor
    · rintro ⟨a, rfl, rfl⟩
      rw [Kd.name_inj a]
    · intro z
      injection z with z1 z2 z3
      subst z1 z2 z3
      exact ⟨rfl, rfl, rfl⟩
end W

/-! ### a form at a value of the heap -/
mutual
inductive FAt (h : Heap) : Value → F → Prop
  | lt {a : Addr} {xs : Array Value} {t1 t2 t3 : Tok} {n : Str} {s : Int} (p : IsTup h a xs) (e : xs.toList = [.str "letter" t1, .str n t2, .int s t3]) : FAt h (.ref a) (.lt n s)
  | nd {a b : Addr} {xs ys : Array Value} {t1 : Tok} {k : Kd} {fs : List F} (p : IsTup h a xs) (e : xs.toList = [.str k.name t1, .ref b]) (q : IsTup h b ys) (r : FsAt h ys.toList fs) : FAt h (.ref a) (.nd k fs)
inductive FsAt (h : Heap) : List Value → List F → Prop
  | nil : FsAt h [] []
  | cons {v : Value} {vs : List Value} {f : F} {fs : List F} (p : FAt h v f) (r : FsAt h vs fs) : FsAt h (v :: vs) (f :: fs)
end
theorem FsAt.length {h : Heap} : ∀ {vs : List Value} {fs : List F}, FsAt h vs fs → vs.length = fs.length
  | _, _, .nil => rfl
  | _, _, .cons _ r => by rw [List.length_cons, List.length_cons, FsAt.length r]
theorem FsAt.get {h : Heap} : ∀ {vs : List Value} {fs : List F} {i : Nat} {v : Value}, FsAt h vs fs → vs[i]? = some v → ∃ f, fs[i]? = some f ∧ FAt h v f
  | _, _, _, _, .nil, e => by simp at e
  | _, _, 0, _, .cons p _, e => by simp at e; subst e; exact ⟨_, rfl, p⟩
  | _, _, i + 1, v, .cons _ r, e => by
    obtain ⟨f, h1, h2⟩ := FsAt.get (i := i) (v := v) r (by simpa using e)
    exact ⟨f, by simpa using h1, h2⟩
theorem FsAt.mem {h : Heap} {vs : List Value} {fs : List F} (r : FsAt h vs fs) {v : Value} (hv : v ∈ vs) : ∃ f, f ∈ fs ∧ FAt h v f := by
  obtain ⟨i, hi⟩ := List.mem_iff_getElem?.mp hv
  obtain ⟨f, h1, h2⟩ := r.get hi
  exact ⟨f, List.mem_of_getElem? h1, h2⟩
/-- all tuples of the one stand in the other -/
def KeepsT (h h' : Heap) : Prop := ∀ b xs, IsTup h b xs → IsTup h' b xs
mutual
theorem FAt.keeps {h h' : Heap} (k : KeepsT h h') : ∀ (f : F) (v : Value), FAt h v f → FAt h' v f
  | .lt _ _, _, x => by
    cases x with
    | lt p e => exact .lt (k _ _ p) e
  | .nd _ fs, _, x => by
    cases x with
    | nd p e q r => exact .nd (k _ _ p) e (k _ _ q) (FsAt.keeps k fs _ r)
theorem FsAt.keeps {h h' : Heap} (k : KeepsT h h') : ∀ (fs : List F) (vs : List Value), FsAt h vs fs → FsAt h' vs fs
  | [], _, x => by
    cases x
    exact .nil
  | f :: fs, _, x => by
    cases x with
    | cons p r => exact .cons (FAt.keeps k f _ p) (FsAt.keeps k fs _ r)
end
theorem IsTup.uniq {h : Heap} {a : Addr} {xs ys : Array Value} (p : IsTup h a xs) (q : IsTup h a ys) : xs = ys := by
  obtain ⟨o, e, _, n, d⟩ := p
  obtain ⟨o', e', _, n', d'⟩ := q
  rw [e] at e'
  cases e'
  rw [d] at d'
  injection d'
mutual
theorem FAt.uniq {h : Heap} : ∀ (f g : F) (v : Value), FAt h v f → FAt h v g → f = g
  | .lt _ _, g, _, x, y => by
    cases x with
    | lt p e =>
      cases y with
      | lt p' e' =>
        have q := IsTup.uniq p p'
        rw [q, e'] at e
        injection e with _ e
        injection e with e1 e
        injection e with e2 _
        injection e1 with e1 _
        injection e2 with e2 _
        rw [e1, e2]
      | nd p' e' _ _ =>
        have q := IsTup.uniq p p'
        rw [q, e'] at e
        injection e with _ e
        injection e with e1 _
        cases e1
  | .nd k fs, g, _, x, y => by
    cases x with
    | nd p e q r =>
      cases y with
      | lt p' e' =>
        have q := IsTup.uniq p p'
        rw [q, e'] at e
        injection e with _ e
        injection e with e1 _
        cases e1
      | nd p' e' q' r' =>
        have z := IsTup.uniq p p'
        rw [z, e'] at e
        injection e with e0 e
        injection e with e1 _
        injection e0 with e0 _
        injection e1 with e1
        subst e1
        have z2 := IsTup.uniq q q'
        rw [← z2] at r'
        rw [Kd.name_inj e0, FsAt.uniq fs _ _ r r']
theorem FsAt.uniq {h : Heap} : ∀ (fs gs : List F) (vs : List Value), FsAt h vs fs → FsAt h vs gs → fs = gs
  | [], _, _, x, y => by
    cases x
    cases y
    rfl
  | f :: fs, _, _, x, y => by
    cases x with
    | cons p r =>
      cases y with
      | cons p' r' => rw [FAt.uniq f _ _ p p', FsAt.uniq fs _ _ r r']
end
mutual
theorem FAt.reads {h : Heap} : ∀ (f : F) (v : Value), FAt h v f → ∃ as, Reads h v (F.data f) as
  | .lt n s, _, x => by
    cases x with
    | @lt a xs t1 t2 t3 _ _ p e =>
      obtain ⟨o, ho, hc, m, hd⟩ := p
      have q : ReadsAll h xs.toList [.str "letter", .str n, .int s] ([] ++ ([] ++ ([] ++ []))) := by
        rw [e]
        exact .cons (.str _ _) (.cons (.str _ _) (.cons (.int _ _) .nil))
      rw [F.data_lt]
      exact ⟨_, Reads.tuple ho hc hd q⟩
  | .nd k fs, _, x => by
    cases x with
    | @nd a b xs ys t1 _ _ p e q r =>
      obtain ⟨o, ho, hc, m, hd⟩ := p
      obtain ⟨o', ho', hc', m', hd'⟩ := q
      obtain ⟨as, ra⟩ := FsAt.reads fs _ r
      have q : ReadsAll h xs.toList [.str k.name, .tuple (F.datas fs)] ([] ++ (as ++ [])) := by
        rw [e]
        exact .cons (.str _ _) (.cons (Reads.tuple ho' hc' hd' ra) .nil)
      rw [F.data_nd]
      exact ⟨_, Reads.tuple ho hc hd q⟩
theorem FsAt.reads {h : Heap} : ∀ (fs : List F) (vs : List Value), FsAt h vs fs → ∃ as, ReadsAll h vs (F.datas fs) as
  | [], _, x => by
    cases x
    exact ⟨_, ReadsAll.nil⟩
  | f :: fs, _, x => by
    cases x with
    | cons p r =>
      obtain ⟨as, h1⟩ := FAt.reads f _ p
      obtain ⟨bs, h2⟩ := FsAt.reads fs _ r
      exact ⟨_, ReadsAll.cons h1 h2⟩
end
section
variable {X : Cx} {pins : List (Addr × Obj)} {σ : L2.St} {H : Hp} {s : Shared}
mutual
theorem FAt.of (I : Inv X pins σ H s) : ∀ (f : F) (v : V) (u : Value), Dp X.K H v (F.data f) → RelV v u → FAt s.heap u f
  | .lt n i, v, u, x, r => by
    cases x with
    | tup hs ha =>
      obtain ⟨its, rv, p, _⟩ := I.tuple hs
      cases r
      cases ha with
      | cons a1 ha =>
        cases ha with
        | cons a2 ha =>
          cases ha with
          | cons a3 ha =>
            cases ha
            cases a1
            cases a2
            cases a3
            cases rv with
            | cons r1 rv =>
              cases rv with
              | cons r2 rv =>
                cases rv with
                | cons r3 rv =>
                  cases rv
                  obtain ⟨t1, rfl⟩ := r1
                  obtain ⟨t2, rfl⟩ := r2
                  obtain ⟨t3, rfl⟩ := r3
                  exact .lt p rfl
  | .nd k fs, v, u, x, r => by
    cases x with
    | tup hs ha =>
      obtain ⟨its, rv, p, _⟩ := I.tuple hs
      cases r
      cases ha with
      | cons a1 ha =>
        cases ha with
        | cons a2 ha =>
          cases ha
          cases a1
          cases a2 with
          | tup hs2 ha2 =>
            obtain ⟨its2, rv2, p2, _⟩ := I.tuple hs2
            cases rv with
            | cons r1 rv =>
              cases rv with
              | cons r2 rv =>
                cases rv
                obtain ⟨t1, rfl⟩ := r1
                cases r2
                exact .nd p rfl p2 (by simpa using FsAt.of I fs _ its2 ha2 rv2)
theorem FsAt.of (I : Inv X pins σ H s) : ∀ (fs : List F) (vs : List V) (us : List Value), DpAll X.K H vs (F.datas fs) → Vals vs us → FsAt s.heap us fs
  | [], _, _, x, r => by
    cases x
    cases r
    exact .nil
  | f :: fs, _, _, x, r => by
    cases x with
    | cons x1 x2 =>
      cases r with
      | cons r1 r2 => exact .cons (FAt.of I f _ _ x1 r1) (FsAt.of I fs _ _ x2 r2)
end
end

/-! ### one form before another -/
section
open Ob
theorem kd_lt (k l : Kd) : decide (k.name.cps.toList < l.name.cps.toList) = decide (k.rank < l.rank) := by cases k <;> cases l <;> decide +kernel
theorem lt_kd (k : Kd) : decide (("letter" : Str).cps.toList < k.name.cps.toList) = decide (2 < k.rank) := by cases k <;> decide +kernel
theorem kd_lt2 (k : Kd) : decide (k.name.cps.toList < ("letter" : Str).cps.toList) = decide (k.rank < 2) := by cases k <;> decide +kernel
theorem RcOp.lt_str {A : Around} {s : Shared} (a b : Str) (t u : Tok) : RcOp .Lt A s (.str a t) (.str b u) (decide (a.cps.toList < b.cps.toList)) := fun _ _ _ _ h => PySem.P.lt_str h
theorem isLt_dec {o : Ordering} {p : Prop} [Decidable p] (h : o = .lt ↔ p) : isLt o = decide p := by
  rw [Bool.eq_iff_iff, isLt_iff, decide_eq_true_eq]
  exact h
theorem cmpNat_dec (a b : Nat) : isLt (cmpNat a b) = decide (a < b) := isLt_dec cmpNat_lt
theorem isTup {h : Heap} {a : Addr} {xs : Array Value} (p : IsTup h a xs) : h.IsTuple a xs := p
theorem cmpNats_dec (a b : List Nat) : isLt (cmpNats a b) = decide (a < b) := isLt_dec cmpNats_lt
theorem lt_lt_eq (n m : Str) (s r : Int) : (if decide (n = m) = true then (if decide (s = r) = true then false else decide (s < r)) else decide (n.cps.toList < m.cps.toList)) = F.lt? (.lt n s) (.lt m r) := by
  unfold F.lt?
  simp only [F.cmp]
  by_cases h : n = m
  · subst h
    rw [decide_eq_true rfl, if_pos rfl, cmpNats_eq.mpr rfl]
    show _ = isLt (cmpInt s r)
    by_cases h2 : s = r
    · subst h2
      rw [decide_eq_true rfl, if_pos rfl, cmpInt_eq.mpr rfl]
      rfl
    · rw [decide_eq_false h2, if_neg Bool.false_ne_true]
      exact (isLt_dec cmpInt_lt).symm
  · rw [decide_eq_false h, if_neg Bool.false_ne_true]
    have q : cmpNats n.cps.toList m.cps.toList ≠ .eq := fun z => h (str_ext (cmpNats_eq.mp z))
    rw [← cmpNats_dec]
    cases e : cmpNats n.cps.toList m.cps.toList with
    | lt => rfl
    | gt => rfl
    | eq => exact absurd e q
theorem nd_nd_eq (k l : Kd) (fs gs : List F) : (if decide (k = l) = true then (if decide (fs = gs) = true then false else isLt (F.cmps fs gs)) else decide (k.rank < l.rank)) = F.lt? (.nd k fs) (.nd l gs) := by
  unfold F.lt?
  simp only [F.cmp]
  by_cases h : k = l
  · subst h
    rw [decide_eq_true rfl, if_pos rfl, cmpNat_eq.mpr rfl]
    show _ = isLt (F.cmps fs gs)
    by_cases h2 : fs = gs
    · subst h2
      rw [decide_eq_true rfl, if_pos rfl, (F.cmps_eq fs fs).mpr rfl]
      rfl
    · rw [decide_eq_false h2, if_neg Bool.false_ne_true]
  · rw [decide_eq_false h, if_neg Bool.false_ne_true, ← cmpNat_dec]
    cases e : cmpNat k.rank l.rank with
    | lt => rfl
    | gt => rfl
    | eq => exact absurd (Kd.rank_inj (cmpNat_eq.mp e)) h
end
end K78
set_option Elab.async false
set_option linter.all false
set_option maxRecDepth 100000
/-! K78, part 3: one form before another, in the heap. -/
namespace K78
open PySem PySem.Spec PyProof.Rows L2 Ob
open PySem.AutoSeq1 (wpAny_loadPart')
open PySem.MeetsSeq PySem.MeetsSeq2 PySem.MeetsSeq3
/-- two rows of items, by pairs: what Python's < looks at, and nothing behind the first unequal pair -/
def Lx (A : Around) (s : Shared) (z : Bool) : List (Value × Value) → Bool → Prop
  | [], r => r = z
  | p :: rest, r => ∃ e, SeqAt.EqAt A s p.1 p.2 e ∧ (e = true → Lx A s z rest r) ∧ (e = false → RcOp .Lt A s p.1 p.2 r)
theorem tuple_lx (l b : Addr) (us vs : Array Value) (n m : Nat) (dd dd2 : Option Addr) (sl sl2 : Array (Option Value)) (k : Bool) :
    Meets (Builtin.«tuple.__lt__» ⟨[.ref l, .ref b], []⟩)
      (fun A R s => s.heap.get? l = some { cls := .type "tuple", dict := dd, data := .seq us n, slots := sl } ∧ s.heap.get? b = some { cls := .type "tuple", dict := dd2, data := .seq vs m, slots := sl2 } ∧
        Lx A.in1 s (decide (us.size < vs.size)) (us.toList.zip vs.toList) k ∧ R (.ok (.ret (.bool k))) s) :=
  .of_wp fun prog w A R s hyp => by
    obtain ⟨hl, hb, hx, hR⟩ := hyp
    obtain ⟨hp, g, d, tk, os⟩ := s
    have f2 := AutoSeq1.sub_tuple_tuple
    wp_walk using wpAny_loadPart' hl, wpAny_loadPart' hb, wpAny_forIn_list _ (fun rest acc s' => acc.1 = none ∧ s' = ⟨hp, g, d, tk, os⟩ ∧ Lx A.in1 ⟨hp, g, d, tk, os⟩ (decide (us.size < vs.size)) rest k) _
    case turn =>
      rintro ⟨y, x⟩ rest acc s' ⟨hacc, rfl, e, he, h1, h2⟩
      refine wpAny_bind (he prog w _ _ ?_)
      cases e with
      | true =>
        have h1 := h1 rfl
        wp_walk
        exact ⟨rfl, rfl, h1⟩
      | false =>
        have hri := h2 rfl prog w
        wp_walk using hri
        exact ⟨_, rfl, by simpa using hR⟩
    case fin =>
      rintro ⟨acc, u⟩ s' ⟨hacc, rfl, hk⟩
      simp only at hacc
      subst hacc
      have hk : k = decide (us.size < vs.size) := hk
      rw [hk] at hR
      wp_walk
      exact ⟨_, rfl, by simpa [Builtin.Tuple.tupleCompareSizes] using hR⟩
    case h => exact ⟨rfl, rfl, hx⟩
theorem tups_lt {A : Around} {s : Shared} {l b : Addr} {us vs : Array Value} {k : Bool} (hl : IsTup s.heap l us) (hb : IsTup s.heap b vs) (hu : A.units < cLine) (hx : Lx A.in1 s (decide (us.size < vs.size)) (us.toList.zip vs.toList) k) : RcOp .Lt A s (.ref l) (.ref b) k := fun prog w E Q h => by
  obtain ⟨⟨c, dd, data, sl⟩, ho, hc, n, hd⟩ := id hl
  obtain ⟨⟨c2, dd2, data2, sl2⟩, ho2, hc2, n2, hd2⟩ := id hb
  simp only at hc hd hc2 hd2
  subst hc hd hc2 hd2
  exact richCompare_meets_room (op := .Lt) ⟨_, ho, rfl⟩ ⟨_, ho2, rfl⟩ F.slot_tuple_lt F.entry_tuple_lt (F.args_tuple_lt_2 _ _) (tuple_lx l b us vs n n2 dd dd2 sl sl2 k) ⟨ho, ho2, hx, ⟨(fun x => nomatch x), h⟩⟩ hu

section
variable {L : List Str} {s : Shared}
theorem form_eq {A : Around} (hL : strOk7 L) {f g : F} {u v : Value} (hf : F.ok L f) (hg : F.ok L g) (p : FAt s.heap u f) (q : FAt s.heap v g) (hu : A.units + 2 * F.depth f < cLine) : SeqAt.EqAt A s u v (decide (f = g)) := by
  obtain ⟨as, r1⟩ := FAt.reads f u p
  obtain ⟨bs, r2⟩ := FAt.reads g v q
  have h1 := F.data_depth f
  have h := SeqAt.eqAt_reads (F.data f) (F.data g) A s u v as bs r1 r2 (F.data_lay hL f hf) (F.data_lay hL g hg) (by omega)
  rw [F.data_eqv] at h
  exact h
theorem forms_eq {A : Around} (hL : strOk7 L) {fs gs : List F} {a b : Addr} {xs ys : Array Value} (hf : F.oks L fs) (hg : F.oks L gs) (pa : IsTup s.heap a xs) (p : FsAt s.heap xs.toList fs) (pb : IsTup s.heap b ys) (q : FsAt s.heap ys.toList gs) (hu : A.units + 2 * F.depths fs + 1 < cLine) : SeqAt.EqAt A s (.ref a) (.ref b) (decide (fs = gs)) := by
  obtain ⟨as, r1⟩ := FsAt.reads fs _ p
  obtain ⟨bs, r2⟩ := FsAt.reads gs _ q
  obtain ⟨o, ho, hc, m, hd⟩ := pa
  obtain ⟨o', ho', hc', m', hd'⟩ := pb
  have h1 := F.datas_depth fs
  have h := SeqAt.eqAt_reads (.tuple (F.datas fs)) (.tuple (F.datas gs)) A s _ _ _ _ (Reads.tuple ho hc hd r1) (Reads.tuple ho' hc' hd' r2) (by simp only [PyData.canLay0]; exact F.datas_lay hL fs hf) (by simp only [PyData.canLay0]; exact F.datas_lay hL gs hg) (by simp only [PyData.depth]; omega)
  rw [F.eqv_tup, F.datas_eqv] at h
  exact h
theorem kd_beq (k l : Kd) : (k.name == l.name) = decide (k = l) := by cases k <;> cases l <;> decide +kernel
theorem str_beq (n m : Str) : (n == m) = decide (n = m) := Bool.eq_iff_iff.mpr (by simp)
theorem int_beq (n m : Int) : (n == m) = decide (n = m) := Bool.eq_iff_iff.mpr (by simp)
theorem kd_let (k : Kd) : (k.name == ("letter" : Str)) = false := by cases k <;> decide +kernel
theorem let_kd (k : Kd) : (("letter" : Str) == k.name) = false := by cases k <;> decide +kernel
theorem arr_of {xs : Array Value} {l : List Value} (e : xs.toList = l) : xs = l.toArray := by subst e; simp
theorem cmps_head {f g : F} (fs gs : List F) (h : f ≠ g) : isLt (F.cmps (f :: fs) (g :: gs)) = F.lt? f g := by
  unfold F.lt?
  simp only [F.cmps]
  cases e : F.cmp f g with
  | lt => rfl
  | gt => rfl
  | eq => exact absurd ((F.cmp_eq f g).mp e) h
theorem cmps_tail (f : F) (fs gs : List F) : F.cmps (f :: fs) (f :: gs) = F.cmps fs gs := by
  simp only [F.cmps]
  rw [(F.cmp_eq f f).mpr rfl]
  rfl
/-- .. where the first pair is of two texts -/
structure Lx1 (A : Around) (s : Shared) (z : Bool) (x y : Str) (rest : List (Value × Value)) (r : Bool) : Prop where
  same : x = y → Lx A s z rest r
  other : x ≠ y → r = decide (x.cps.toList < y.cps.toList)
theorem Lx1.lx {A : Around} {z r : Bool} {x y : Str} {t u : Tok} {rest : List (Value × Value)} (h : Lx1 A s z x y rest r) : Lx A s z ((.str x t, .str y u) :: rest) r := by
  refine ⟨decide (x = y), ?_, fun e => h.same (of_decide_eq_true e), fun e => ?_⟩
  · have q := SeqAt.EqAt.str_str (A := A) (s := s) x t y u
    rw [str_beq] at q
    exact q
  · rw [h.other (of_decide_eq_false e)]
    exact RcOp.lt_str _ _ _ _
theorem nd_nd_lx {A : Around} {b c : Addr} {k l : Kd} {fs gs : List F} (he : SeqAt.EqAt A s (.ref b) (.ref c) (decide (fs = gs))) (hr : RcOp .Lt A s (.ref b) (.ref c) (isLt (F.cmps fs gs))) :
    Lx1 A s (decide (2 < 2)) k.name l.name [(.ref b, .ref c)] (F.lt? (.nd k fs) (.nd l gs)) := by
  rw [← nd_nd_eq]
  refine ⟨fun e => ?_, fun e => ?_⟩
  · have e := Kd.name_inj e
    rw [decide_eq_true e, if_pos rfl]
    refine ⟨decide (fs = gs), he, fun e2 => ?_, fun e2 => ?_⟩
    · rw [e2, if_pos rfl]
      rfl
    · rw [e2, if_neg Bool.false_ne_true]
      exact hr
  · rw [decide_eq_false (fun z => e (by rw [z])), if_neg Bool.false_ne_true, ← kd_lt]
theorem lt_lt_lx {A : Around} {t2 t3 u2 u3 : Tok} {n m : Str} {i r : Int} :
    Lx1 A s (decide (3 < 3)) "letter" "letter" [(.str n t2, .str m u2), (.int i t3, .int r u3)] (F.lt? (.lt n i) (.lt m r)) := by
  rw [← lt_lt_eq]
  refine ⟨fun _ => ⟨decide (n = m), ?_, fun e => ⟨decide (i = r), ?_, fun e2 => ?_, fun e2 => ?_⟩, fun e => ?_⟩, fun e => absurd rfl e⟩
  · have h := SeqAt.EqAt.str_str (A := A) (s := s) n t2 m u2
    rw [str_beq] at h
    exact h
  · have h := SeqAt.EqAt.int_int (A := A) (s := s) i t3 r u3
    rw [int_beq] at h
    exact h
  · rw [e, if_pos rfl, e2, if_pos rfl]
    rfl
  · rw [e, if_pos rfl, e2, if_neg Bool.false_ne_true]
    exact RcOp.lt_int _ _ _ _
  · rw [e, if_neg Bool.false_ne_true]
    exact RcOp.lt_str _ _ _ _
theorem lt_nd_lx {A : Around} {z : Bool} {n : Str} {i : Int} {k : Kd} {fs : List F} {rest : List (Value × Value)} : Lx1 A s z "letter" k.name rest (F.lt? (.lt n i) (.nd k fs)) := by
  refine ⟨fun e => absurd e.symm k.name_ne, fun _ => ?_⟩
  rw [lt_kd]
  unfold F.lt?
  simp only [F.cmp]
  rw [cmpNat_dec]
theorem nd_lt_lx {A : Around} {z : Bool} {n : Str} {i : Int} {k : Kd} {fs : List F} {rest : List (Value × Value)} : Lx1 A s z k.name "letter" rest (F.lt? (.nd k fs) (.lt n i)) := by
  refine ⟨fun e => absurd e k.name_ne, fun _ => ?_⟩
  rw [kd_lt2]
  unfold F.lt?
  simp only [F.cmp]
  rw [cmpNat_dec]
mutual
/-- the pairs that two forms' own tuples give -/
theorem form_lx (hL : strOk7 L) : ∀ (f g : F) (A : Around) (u v : Value), F.ok L f → F.ok L g → FAt s.heap u f → FAt s.heap v g → A.units + 2 * F.depth f < cLine →
    ∃ (a b : Addr) (xs ys : List Value) (x y : Str) (t t' : Tok), u = .ref a ∧ v = .ref b ∧ IsTup s.heap a (.str x t :: xs).toArray ∧ IsTup s.heap b (.str y t' :: ys).toArray ∧
      Lx1 A s (decide (xs.length + 1 < ys.length + 1)) x y (xs.zip ys) (F.lt? f g)
  | .lt n i, .lt m r, A, _, _, _, _, p, q, hu => by
    cases p with
    | @lt a xs t1 t2 t3 _ _ p e =>
      cases q with
      | @lt b ys u1 u2 u3 _ _ q e' =>
        have e := arr_of e
        have e' := arr_of e'
        subst e e'
        exact ⟨a, b, _, _, _, _, _, _, rfl, rfl, p, q, lt_lt_lx⟩
  | .lt n i, .nd k fs, A, _, _, _, _, p, q, hu => by
    cases p with
    | @lt a xs t1 t2 t3 _ _ p e =>
      cases q with
      | @nd b c ys zs u1 _ _ q e' q2 r2 =>
        have e := arr_of e
        have e' := arr_of e'
        subst e e'
        exact ⟨a, b, _, _, _, _, _, _, rfl, rfl, p, q, lt_nd_lx⟩
  | .nd k fs, .lt n i, A, _, _, _, _, p, q, hu => by
    cases p with
    | @nd b c ys zs u1 _ _ p e p2 r2 =>
      cases q with
      | @lt a xs t1 t2 t3 _ _ q e' =>
        have e := arr_of e
        have e' := arr_of e'
        subst e e'
        exact ⟨b, a, _, _, _, _, _, _, rfl, rfl, p, q, nd_lt_lx⟩
  | .nd k fs, .nd l gs, A, _, _, hf, hg, p, q, hu => by
    have hf : F.oks L fs := by simpa only [F.ok] using hf
    have hg : F.oks L gs := by simpa only [F.ok] using hg
    simp only [F.depth] at hu
    cases p with
    | @nd a c xs xs2 t1 _ _ p e p2 r1 =>
      cases q with
      | @nd b d ys ys2 u1 _ _ q e' q2 r2 =>
        have e := arr_of e
        have e' := arr_of e'
        subst e e'
        refine ⟨a, b, _, _, _, _, _, _, rfl, rfl, p, q, nd_nd_lx (forms_eq hL hf hg p2 r1 q2 r2 (by omega)) (tups_lt p2 q2 (by omega) ?_)⟩
        have z := forms_lx hL fs gs A.in1 _ _ hf hg r1 r2 (by show A.units + 1 + 2 * F.depths fs + 1 < cLine; omega)
        rw [Array.length_toList, Array.length_toList] at z
        exact z
theorem forms_lx (hL : strOk7 L) : ∀ (fs gs : List F) (A : Around) (us vs : List Value), F.oks L fs → F.oks L gs → FsAt s.heap us fs → FsAt s.heap vs gs → A.units + 2 * F.depths fs + 1 < cLine →
    Lx A s (decide (us.length < vs.length)) (us.zip vs) (isLt (F.cmps fs gs))
  | [], gs, A, us, vs, _, _, p, q, _ => by
    cases p
    rw [List.zip_nil_left]
    have e := q.length
    show isLt (F.cmps [] gs) = decide (0 < vs.length)
    rw [e]
    cases gs <;> rfl
  | f :: fs, [], A, us, vs, _, _, p, q, _ => by
    cases q
    rw [List.zip_nil_right]
    show isLt (F.cmps (f :: fs) []) = decide (us.length < 0)
    rw [decide_eq_false (Nat.not_lt_zero _)]
    rfl
  | f :: fs, g :: gs, A, us, vs, hf, hg, p, q, hu => by
    have hf : F.ok L f ∧ F.oks L fs := by simpa only [F.oks] using hf
    have hg : F.ok L g ∧ F.oks L gs := by simpa only [F.oks] using hg
    simp only [F.depths] at hu
    cases p with
    | @cons u us _ _ p p' =>
      cases q with
      | @cons v vs _ _ q q' =>
        refine ⟨decide (f = g), form_eq hL hf.1 hg.1 p q (by omega), fun e => ?_, fun e => ?_⟩
        · have e := of_decide_eq_true e
          subst e
          rw [cmps_tail]
          have z := forms_lx hL fs gs A us vs hf.2 hg.2 p' q' (by omega)
          have e2 : decide ((u :: us).length < (v :: vs).length) = decide (us.length < vs.length) := decide_eq_decide.mpr (by simp only [List.length_cons]; omega)
          rw [e2]
          exact z
        · have e := of_decide_eq_false e
          rw [cmps_head fs gs e]
          have hd : 1 ≤ F.depth f := by cases f <;> simp only [F.depth] <;> omega
          obtain ⟨a, b, xs, ys, x, y, t, t', rfl, rfl, pa, pb, z⟩ := form_lx hL f g A.in1 u v hf.1 hg.1 p q (by show A.units + 1 + 2 * F.depth f < cLine; omega)
          exact tups_lt pa pb (by omega) z.lx
end
end
end K78
set_option Elab.async false
set_option linter.all false
set_option maxRecDepth 100000
/-! K78, part 4: sorted(forms); sorted(xs, key=f) where f gives forms. -/
namespace K78
open PySem PySem.Spec PyProof.Rows L2 Ob

/-! ### tuples stay -/
structure Tu (H H' : Hp) : Prop where
  tups : ∀ b xs, H b = some (.tup xs) → H' b = some (.tup xs)
  frzs : ∀ b o u, H b = some (.frz o u) → H' b = some (.frz o u)
theorem Tu.refl (H : Hp) : Tu H H := ⟨fun _ _ e => e, fun _ _ _ e => e⟩
theorem Tu.trans {H H1 H2 : Hp} (a : Tu H H1) (b : Tu H1 H2) : Tu H H2 := ⟨fun c xs e => b.tups c xs (a.tups c xs e), fun c o u e => b.frzs c o u (a.frzs c o u e)⟩
theorem Tu.un {fs ex : List Addr} {H H' : Hp} {h h' : Heap} (u : Un fs ex H H' h h') : Tu H H' := ⟨u.tups, u.frzs⟩
theorem Tu.new {H : Hp} {p : Addr} {o : HO} (h : H p = none) : Tu H (upd H p o) := ⟨fun b xs e => by rw [upd_ne (ne_of_none e h)]; exact e, fun b o' u e => by rw [upd_ne (ne_of_none e h)]; exact e⟩
theorem Tu.lst {H : Hp} {p : Addr} {xs : List V} {o : HO} (h : H p = some (.lst xs)) : Tu H (upd H p o) :=
  ⟨fun b ys e => by rw [upd_ne (ne_of e h (fun z => nomatch z))]; exact e, fun b o' u e => by rw [upd_ne (ne_of e h (fun z => nomatch z))]; exact e⟩
theorem Tu.seq {K : PySem.W.Frag} {H H' : Hp} {a : Addr} {xs : List V} (t : Tu H H') (h : SqT K H a xs) : SqT K H' a xs := by
  rcases h with (h | ⟨o, h⟩) | h
  · exact .inl (.inl (t.tups _ _ h))
  · exact .inl (.inr ⟨o, t.frzs _ _ _ h⟩)
  · exact .inr h
mutual
def tupOnly : PyData → Bool
  | .none => true
  | .bool _ => true
  | .int _ => true
  | .str _ => true
  | .list _ => false
  | .tuple ds => tupOnlys ds
  | .dict _ => false
def tupOnlys : List PyData → Bool
  | [] => true
  | d :: ds => tupOnly d && tupOnlys ds
end
mutual
theorem Tu.dp {K : PySem.W.Frag} {H H' : Hp} (t : Tu H H') : ∀ (d : PyData) (v : V), tupOnly d = true → Dp K H v d → Dp K H' v d
  | .none, _, _, x => by cases x; exact .non
  | .bool _, _, _, x => by cases x; exact .bl _
  | .int _, _, _, x => by cases x; exact .int _
  | .str _, _, _, x => by cases x; exact .str _
  | .list _, _, h, _ => by simp [tupOnly] at h
  | .tuple ds, _, h, x => by
    have h : tupOnlys ds = true := by simpa only [tupOnly] using h
    cases x with
    | tup hs ha => exact .tup (t.seq hs) (Tu.dps t ds _ h ha)
  | .dict _, _, h, _ => by simp [tupOnly] at h
theorem Tu.dps {K : PySem.W.Frag} {H H' : Hp} (t : Tu H H') : ∀ (ds : List PyData) (vs : List V), tupOnlys ds = true → DpAll K H vs ds → DpAll K H' vs ds
  | [], _, _, x => by cases x; exact .nil
  | d :: ds, _, h, x => by
    have h : tupOnly d = true ∧ tupOnlys ds = true := by simpa only [tupOnlys, Bool.and_eq_true] using h
    cases x with
    | cons x1 x2 => exact .cons (Tu.dp t d _ h.1 x1) (Tu.dps t ds _ h.2 x2)
end
mutual
theorem F.tup : ∀ f : F, tupOnly (F.data f) = true
  | .lt _ _ => by rw [F.data_lt]; simp only [tupOnly, tupOnlys, Bool.and_self]
  | .nd _ fs => by rw [F.data_nd]; simp only [tupOnly, tupOnlys, F.tups fs, Bool.and_self]
theorem F.tups : ∀ fs : List F, tupOnlys (F.datas fs) = true
  | [] => by rw [F.datas]; simp only [tupOnlys]
  | f :: fs => by rw [F.datas]; simp only [tupOnlys, F.tup f, F.tups fs, Bool.and_self]
end
theorem W.tup : ∀ w : W, tupOnly (W.data w) = true
  | .lt _ _ => by rw [W.data_lt]; simp only [tupOnly, tupOnlys, Bool.and_self]
  | .nd _ a b => by rw [W.data_nd]; simp only [tupOnly, tupOnlys, W.tup a, W.tup b, Bool.and_self]
/-- v is the word w, the form f -/
abbrev IsW (K : PySem.W.Frag) (H : Hp) (v : V) (w : W) : Prop := Dp K H v (W.data w)
abbrev IsF (K : PySem.W.Frag) (H : Hp) (v : V) (f : F) : Prop := Dp K H v (F.data f)
abbrev AreF (K : PySem.W.Frag) (H : Hp) (vs : List V) (fs : List F) : Prop := DpAll K H vs (F.datas fs)
theorem Tu.isW {K : PySem.W.Frag} {H H' : Hp} (t : Tu H H') {v : V} {w : W} (x : IsW K H v w) : IsW K H' v w := t.dp _ _ (W.tup w) x
theorem Tu.isF {K : PySem.W.Frag} {H H' : Hp} (t : Tu H H') {v : V} {f : F} (x : IsF K H v f) : IsF K H' v f := t.dp _ _ (F.tup f) x
theorem Tu.areF {K : PySem.W.Frag} {H H' : Hp} (t : Tu H H') {vs : List V} {fs : List F} (x : AreF K H vs fs) : AreF K H' vs fs := t.dps _ _ (F.tups fs) x
theorem IsF.ref {K : PySem.W.Frag} {H : Hp} {v : V} {f : F} (x : IsF K H v f) : ∃ a, v = .ref a := by
  cases f with
  | lt n s => rw [IsF, F.data_lt] at x; cases x with | tup _ _ => exact ⟨_, rfl⟩
  | nd k fs => rw [IsF, F.data_nd] at x; cases x with | tup _ _ => exact ⟨_, rfl⟩
theorem AreF.nil {K : PySem.W.Frag} {H : Hp} : AreF K H [] [] := by
  show DpAll K H [] (F.datas [])
  rw [F.datas]
  exact .nil
theorem AreF.cons {K : PySem.W.Frag} {H : Hp} {v : V} {vs : List V} {f : F} {fs : List F} (x : IsF K H v f) (y : AreF K H vs fs) : AreF K H (v :: vs) (f :: fs) := by
  show DpAll K H (v :: vs) (F.datas (f :: fs))
  rw [F.datas]
  exact .cons x y
theorem AreF.inv {K : PySem.W.Frag} {H : Hp} {v : V} {vs : List V} {f : F} {fs : List F} (x : AreF K H (v :: vs) (f :: fs)) : IsF K H v f ∧ AreF K H vs fs := by
  have x : DpAll K H (v :: vs) (F.datas (f :: fs)) := x
  rw [F.datas] at x
  cases x with
  | cons a b => exact ⟨a, b⟩
theorem AreF.len {K : PySem.W.Frag} {H : Hp} : ∀ {vs : List V} {fs : List F}, AreF K H vs fs → vs.length = fs.length
  | [], [], _ => rfl
  | v :: vs, [], x => by
    have x : DpAll K H (v :: vs) (F.datas []) := x
    rw [F.datas] at x
    cases x
  | [], f :: fs, x => by
    have x : DpAll K H [] (F.datas (f :: fs)) := x
    rw [F.datas] at x
    cases x
  | v :: vs, f :: fs, x => by rw [List.length_cons, List.length_cons, AreF.len x.inv.2]
theorem AreF.get {K : PySem.W.Frag} {H : Hp} : ∀ {vs : List V} {fs : List F} {i : Nat} {v : V} {f : F}, AreF K H vs fs → vs[i]? = some v → fs[i]? = some f → IsF K H v f
  | [], _, _, _, _, _, e, _ => by simp at e
  | _ :: _, [], _, _, _, _, _, e => by simp at e
  | v :: vs, f :: fs, 0, _, _, x, e, e' => by
    simp at e e'
    subst e e'
    exact x.inv.1
  | v :: vs, f :: fs, i + 1, _, _, x, e, e' => AreF.get (i := i) x.inv.2 (by simpa using e) (by simpa using e')
theorem AreF.append {K : PySem.W.Frag} {H : Hp} : ∀ {vs ws : List V} {fs gs : List F}, AreF K H vs fs → AreF K H ws gs → AreF K H (vs ++ ws) (fs ++ gs)
  | [], _, [], _, _, y => y
  | v :: vs, _, [], _, x, _ => by have := x.len; simp at this
  | [], _, f :: fs, _, x, _ => by have := x.len; simp at this
  | v :: vs, ws, f :: fs, gs, x, y => AreF.cons x.inv.1 (AreF.append x.inv.2 y)

/-! ### the form at a value -/
noncomputable def decF (h : Heap) (v : Value) : F := open Classical in if q : ∃ f, FAt h v f then q.choose else .nd .bo []
theorem decF_at {h : Heap} {v : Value} {f : F} (p : FAt h v f) : decF h v = f := by
  have q : ∃ f, FAt h v f := ⟨f, p⟩
  unfold decF
  rw [dif_pos q]
  exact FAt.uniq _ _ _ q.choose_spec p
noncomputable abbrev ltF (h : Heap) (v u : Value) : Bool := F.lt? (decF h v) (decF h u)
theorem swoF (h : Heap) : SrtO.Swo (ltF h) := ⟨fun _ _ e => F.lt?_asym _ _ e, fun _ _ _ a b => F.lt?_tr _ _ _ a b⟩
theorem decF_map {h : Heap} : ∀ {vs : List Value} {fs : List F}, FsAt h vs fs → vs.map (decF h) = fs
  | _, _, .nil => rfl
  | _, _, .cons p r => by rw [List.map_cons, decF_at p, decF_map r]
theorem decF_mem {h : Heap} {vs : List Value} {fs : List F} (p : FsAt h vs fs) {v : Value} (hv : v ∈ vs) : FAt h v (decF h v) := by
  obtain ⟨f, _, q⟩ := p.mem hv
  rw [decF_at q]
  exact q
theorem firstsF {h : Heap} : ∀ {vs : List Value} {fs : List F}, FsAt h vs fs → ∃ hs, PySem.W.KatTups h vs hs ∧ hs.length = vs.length ∧ ∀ x ∈ hs, ∃ z t, x = Value.str z t
  | _, _, .nil => ⟨[], trivial, rfl, fun x hx => absurd hx (by simp)⟩
  | _, _, .cons p r => by
    obtain ⟨hs, h1, h2, h3⟩ := firstsF r
    cases p with
    | @lt a xs t1 t2 t3 _ _ p e =>
      have e := arr_of e
      subst e
      obtain ⟨o, ho, hc, m, hd⟩ := p
      exact ⟨_ :: hs, PySem.W.KatTups.cons ho hc hd rfl h1, by simp [h2], fun x hx => (List.mem_cons.mp hx).elim (fun z => ⟨_, _, z⟩) (h3 x)⟩
    | @nd a b xs ys t1 _ _ p e _ _ =>
      have e := arr_of e
      subst e
      obtain ⟨o, ho, hc, m, hd⟩ := p
      exact ⟨_ :: hs, PySem.W.KatTups.cons ho hc hd rfl h1, by simp [h2], fun x hx => (List.mem_cons.mp hx).elim (fun z => ⟨_, _, z⟩) (h3 x)⟩
section
variable {prog : Program} {w : World} {A : Around} {E : Value → Shared → Prop} {s : Shared} {L : List Str}
theorem katLx {b z r : Bool} {Q : Bool → Shared → Prop} (hq : Q r s) : ∀ (ps : List (Value × Value)) (i : Nat), Lx A s z ps r → PySem.W.KatLex prog w A b z Q ps (i + 1) s
  | [], _, h => by
    have h : r = z := h
    subst h
    exact PySem.W.kat_nil hq
  | (p, q) :: ps, i, h => by
    obtain ⟨e, he, h1, h2⟩ := h
    refine PySem.W.kat_cons (he prog w _ _ ?_)
    cases e with
    | true => exact PySem.W.kat_yes (katLx hq ps (i + 1) (h1 rfl))
    | false =>
      refine PySem.W.kat_no ?_
      have e0 : (b && (i + 1 == 0)) = false := by simp
      rw [e0]
      exact PySem.W.kat_one p q (h2 rfl prog w _ _ hq)
theorem keysF (hL : strOk7 L) {g : Heap} {vs : List Value} {fs : List F} (p : FsAt g vs fs) (k : KeepsT g s.heap) (ok : F.oks L fs) (hu : A.units + 2 * F.depths fs < cLine) : SrtO.Cmp prog w A s (tuples' true) (fun p => p.1 ∈ vs) (SrtO.lt2 (ltF g)) := by
  intro x y hx hy
  obtain ⟨f, hf, pf⟩ := p.mem hx
  obtain ⟨f', hf', pf'⟩ := p.mem hy
  show wpAny (model prog w) A (keyLt' (tuples' true) x.1 y.1) (fun r s' => s' = s ∧ r = F.lt? (decF g x.1) (decF g y.1)) (fun _ _ => False) s
  rw [decF_at pf, decF_at pf']
  have h1 := F.mem_depth hf
  obtain ⟨a, b, xs, ys, z, z', t, t', e1, e2, pa, pb, hx1⟩ := form_lx (s := s) hL f f' A _ _ (F.oks_iff.mp ok f hf) (F.oks_iff.mp ok f' hf') (FAt.keeps k f _ pf) (FAt.keeps k f' _ pf') (by omega)
  rw [e1, e2]
  obtain ⟨o, ho, hc, m, hd⟩ := pa
  obtain ⟨o', ho', hc', m', hd'⟩ := pb
  refine PySem.W.kat_lt ho hd ho' hd' ?_
  have hsz : decide ((Value.str z t :: xs).toArray.size < (Value.str z' t' :: ys).toArray.size) = decide (xs.length + 1 < ys.length + 1) := by simp
  rw [hsz]
  show PySem.W.KatLex prog w A true _ _ ((.str z t, .str z' t') :: xs.zip ys) 0 s
  refine PySem.W.kat_cons (SeqAt.EqAt.str_str z t z' t' prog w _ _ ?_)
  rw [str_beq]
  by_cases e : z = z'
  · rw [decide_eq_true e]
    exact PySem.W.kat_yes (katLx ⟨rfl, rfl⟩ _ 0 (hx1.same e))
  · rw [decide_eq_false e]
    refine PySem.W.kat_no ?_
    exact oneLt_str ⟨rfl, (hx1.other e).symm⟩
theorem kindF {g : Heap} {vs : List Value} {fs : List F} {Q : SortKind → Shared → Prop} (p : FsAt g vs fs) (k : KeepsT g s.heap) (h2 : 0 < vs.length) (h : Q (tuples' true) s) : wpAny (model prog w) A (keyKind' vs.toArray) Q E s := by
  obtain ⟨hs, h1, h3, h4⟩ := firstsF (FsAt.keeps k fs vs p)
  refine PySem.W.kat_kind (T := .type "str") h1 (by omega) (fun f hm => ?_) (by rfl) ?_
  · obtain ⟨x, t, rfl⟩ := h4 f hm
    exact PySem.W.Looks.now
  · have e : (Value.type "str" != Value.type "tuple") = true := by first | decide +kernel | rfl | decide
    rw [e]
    exact h
theorem isTup_of {h : Heap} {b : Addr} {xs : Array Value} (p : IsTup h b xs) {a : Addr} (ha : ∀ o, h.get? a = some o → o.cls ≠ .type "tuple") : b ≠ a := fun z => by
  obtain ⟨o, ho, hc, _⟩ := p
  rw [z] at ho
  exact ha o ho hc
theorem sortableF (hL : strOk7 L) {g : Heap} {a : Addr} {vs : List Value} {fs : List F} (p : FsAt g vs fs) (k : KeepsT g s.heap) (ok : F.oks L fs) (hu : A.units + 2 * F.depths fs < cLine) (h0 : 0 < vs.length) (ha : ∀ o, s.heap.get? a = some o → o.cls ≠ .type "tuple") :
    SrtO.SortableO prog w A s a vs (ltF g) := by
  intro h' keep
  have k' : KeepsT g h' := fun b xs q => by
    have q1 := k b xs q
    obtain ⟨o, ho, hc, m, hd⟩ := id q1
    exact ⟨o, keep b o (isTup_of q1 ha) ho, hc, m, hd⟩
  exact ⟨tuples' true, fun Q E hq => kindF (s := { s with heap := h' }) p k' h0 hq, keysF (s := { s with heap := h' }) hL p k' ok hu⟩
end

/-! ### sorted(forms) -/
section
variable {X : Cx} {L : List Str}
/-- what it gives, by values and by forms -/
theorem srt_of_out {h : Heap} {its out : List Value} {fs : List F} (p : FsAt h its fs) (h1 : SrtO.Srtd (ltF h) out) (h2 : out.Perm its) : out.map (decF h) = F.srt fs := by
  refine F.srt_of (List.pairwise_map.mpr h1) ?_
  have q := h2.map (decF h)
  rw [decF_map p] at q
  exact q
theorem vals_refs {K : PySem.W.Frag} {H : Hp} {xs : List V} {fs : List F} (x : AreF K H xs fs) : ∀ v ∈ xs, ∃ a, v = V.ref a := fun v hv => by
  obtain ⟨i, hi⟩ := List.mem_iff_getElem?.mp hv
  have hl := x.len
  have hi2 : i < fs.length := by
    rw [← hl]
    exact (List.getElem?_eq_some_iff.mp hi).1
  exact (x.get hi (List.getElem?_eq_getElem hi2)).ref
theorem back_is {K : PySem.W.Frag} {H : Hp} {h : Heap} : ∀ {xs : List V} {its : List Value} {fs : List F}, Vals xs its → AreF K H xs fs → FsAt h its fs → ∀ u ∈ its, IsF K H (backV u) (decF h u)
  | _, _, _, .nil, _, _, u, hu => absurd hu (by simp)
  | _, _, _, .cons r rv, x, p, u, hu => by
    cases p with
    | cons p p' =>
      obtain ⟨x1, x2⟩ := x.inv
      rcases List.mem_cons.mp hu with e | hu
      · obtain ⟨a, ea⟩ := x1.ref
        subst ea
        have r : _ = Value.ref a := r
        subst r
        subst e
        rw [decF_at p]
        exact x1
      · exact back_is rv x2 p' u hu
theorem areF_map {K : PySem.W.Frag} {H : Hp} {h : Heap} : ∀ {out : List Value}, (∀ u ∈ out, IsF K H (backV u) (decF h u)) → AreF K H (out.map backV) (out.map (decF h))
  | [], _ => .nil
  | u :: out, q => AreF.cons (q u List.mem_cons_self) (areF_map fun v hv => q v (List.mem_cons_of_mem _ hv))
def rSortF (L : List Str) (K : PySem.W.Frag) : List V → Hp → VK → Prop := fun vs H Q => ∃ (a : Addr) (xs : List V) (fs : List F), vs = [V.ref a] ∧ SqL K H a xs ∧ AreF K H xs fs ∧ F.oks L fs ∧ F.depths fs ≤ 60 ∧
  ∀ p zs, H p = none → AreF K H zs (F.srt fs) → Q (.ref p) (upd H p (.lst zs))
theorem cr_sortedF {k : Nat} (hL : strOk7 L) (hr : Room k X.A) : CallR X (.builtin "sorted") (rSortF L X.K) := by
  intro pins s σ H vs us Q I r h
  obtain ⟨a, xs, fs, rfl, hs, hx, ok, hd, q⟩ := h
  obtain ⟨its, rv, hl, hz⟩ := I.list hs
  obtain ⟨u, rfl, ru⟩ := vals1 r
  obtain rfl : u = Value.ref a := ru
  have p := FsAt.of I fs xs its hx rv
  have hun := hr.un
  refine SrtO.sorted_ord (swoF s.heap) hl.isList (by rw [← rv.length]; exact hz) (fun h2 h₁ a' ha' kk => ?_) fun out h1 h2 => ?_
  · refine sortableF (s := { s with heap := h₁ }) hL p (fun b ys z => ?_) ok (by show X.A.units + 1 + 1 + 2 * F.depths fs < cLine; omega) (by omega) fun o e => ?_
    · obtain ⟨o, ho, hc, m, hd⟩ := z
      exact ⟨o, (kk b o ho).2, hc, m, hd⟩
    · have e' : some o = some (seqObj "list" its.toArray 0) := e.symm.trans ha'
      cases e'
      intro c
      exact absurd (Value.type.inj c) (by decide)
  · have hb := back_is rv hx p
    have hm : ∀ u ∈ out, IsF X.K H (backV u) (decF s.heap u) := fun u hu => hb u (h2.perm.mem_iff.mp hu)
    have h3 : ∀ u ∈ out, ∃ a, u = Value.ref a := fun u hu => (refs_back rv (vals_refs hx)).2 u (h2.perm.mem_iff.mp hu)
    have hA := areF_map hm
    rw [srt_of_out p h1 h2.perm] at hA
    obtain ⟨n, hn⟩ := PyProof.Rows.sortedAll_at s.heap its out.toArray
    have hlen : (out.map backV).length ≤ sizeLine := by rw [List.length_map, h2.perm.length_eq, ← rv.length]; exact hz
    exact ⟨.ref _, upd H (s.heap.objs.size + 1) (.lst (out.map backV)), I.laid (t' := s.toks) (fun b o e => PyProof.Rows.sortedAll_old e) (Nat.le_succ _) ⟨hlen, out, n, vals_back h3, hn⟩, rfl, q _ _ (I.hok.fresh (Nat.le_succ _)) hA⟩
end
end K78
set_option Elab.async false
set_option linter.all false
set_option maxRecDepth 100000
/-! K78, part 5: a lambda with parameters, as a value and as a key function; sorted(xs, key=f). -/
namespace K78
open PySem PySem.Spec PyProof.Rows L2 Ob LamX

/-! ### an object that stands already is tracked from now on -/
section
variable {X : Cx} {pins : List (Addr × Obj)} {σ : L2.St} {H : Hp} {s : Shared}
theorem track {D : Addr} {o : HO} (I : Inv X pins σ H s) (hf : FpOk X pins H D) (new : ObjOk X.prog X.w (upd H D o) s.heap D o) : Inv X pins σ (upd H D o) s := by
  obtain ⟨f0, f1, f2, f3, f4, f5⟩ := hf
  have ne : ∀ {b : Addr} {u : HO}, H b = some u → b ≠ D := fun e => ne_of_none e f0
  refine I.step (h' := s.heap) (g' := s.gens) (d' := s.drawn) (t' := s.toks) (ch := [D]) (fun b hb => ?_) (fun b ob _ _ _ e _ => e) (fun b ob _ _ _ e _ => ⟨ob.slots, e⟩) (fun b ob hb e n => ?_) (fun b ob _ e => ⟨ob, e⟩)
    (fun b xs e => by rw [upd_ne (ne e)]; exact e) (fun b ob u e => by rw [upd_ne (ne e)]; exact e) (fun b ps e => ⟨#[], by rw [upd_ne (ne e), e]; simp⟩) (fun m hm => hm) (fun b u e => ?_) I.bare
  · have e : b = D := by simpa using hb
    subst e
    exact ⟨f3, f1, f4, f5⟩
  · rw [upd_ne (fun z => hb (by simp [z]))]
    exact n
  · by_cases hb : b = D
    · subst hb
      rw [upd_same] at e
      cases e
      exact new
    · rw [upd_ne hb] at e
      exact (I.hok b u e).stay (fun c v _ q => q) (fun c q => by rw [upd_ne (ne q)]; exact q) fun c xs q => by rw [upd_ne (ne q)]; exact q
/-- a function object, as it stands -/
def FnO (f : Addr) (o : Obj) : HO := .ext fun h => h.get? f = some o
theorem FnO.ok {P : Program} {w : World} {h : Heap} {f : Addr} {o : Obj} (e : h.get? f = some o) : ObjOk P w H h f (FnO f o) := ⟨e, ⟨o, e⟩, fun _ _ p st => st _ p⟩
theorem FnO.at {P : Program} {w : World} {h : Heap} {f : Addr} {o : Obj} (x : HOk P w H h) (e : H f = some (FnO f o)) : h.get? f = some o := (x f _ e).1
theorem fnO_ne {f : Addr} {o : Obj} (ps : Array Value) : FnO f o ≠ .tbl ps := fun z => by
  unfold FnO at z
  cases z

/-! ### a lambda is made -/
theorem tabS_more {H H1 : Hp} {P c' : Addr} {q : Str} {ps : Array Value} {pos : Pos} (e : ExtN H H1) (hP : H1 P = some (.tbl (ps ++ #[rawInt pos.line, rawInt pos.col, .ref c']))) (ht : TriplesOk ps.toList)
    (ha : ∀ (pos : Pos) (cv : Value), codeAmong pos ps.toList = some cv → ∃ c, cv = .ref c ∧ H c = some (CodeO c q)) (hc : H1 c' = some (CodeO c' q)) : TabS H1 P q := by
  have el : (ps ++ #[rawInt pos.line, rawInt pos.col, .ref c']).toList = ps.toList ++ [rawInt pos.line, rawInt pos.col, .ref c'] := by simp
  refine ⟨_, hP, by rw [el]; exact PySem.TriplesOk_snoc _ _ _ _ ht, fun p' cv h => ?_⟩
  rw [el] at h
  rcases among_app _ ht h with z | z
  · obtain ⟨c0, e1, e2⟩ := ha p' cv z
    exact ⟨c0, e1, e _ _ e2 codeO_ne⟩
  · exact ⟨c', z, hc⟩
/-- what stands where the lambda came to stand -/
abbrev lamObj (X : Cx) (params : Arguments) (body : Expr) (scope : Scope) (pm : Value) (c' : Addr) (ctv : Value) : Obj :=
  PySem.W.kla_obj "<lambda>" (X.env.qual ++ "<lambda>") params body scope (cloFrom X.env.cells scope.names []) pm c' ctv
theorem lam_new {c P : Addr} {params : Arguments} {body : Expr} {scope : Scope} {pos : Pos} {E : Value → Shared → Prop} {Q : Value → Shared → Prop} (I : Inv X pins σ H s) (TB : TabB X.base X.mg c P) (hcode : X.env.code = .ref c)
    (hT : TabS H P (X.env.qual ++ "<lambda>")) (hdef : defaultsOf params X.env = ([], [])) (hfree : ∀ y ∈ scope.names, y.2 = .free → ∃ c, X.env.cells.lookup y.1 = some c)
    (h : ∀ (f c' : Addr) (pm ctv : Value) (H1 : Hp) (s' : Shared), Inv X pins σ H1 s' → ExtN H H1 → Tu H H1 → (∀ b, H1 b = none → H b = none) → TabS H1 P (X.env.qual ++ "<lambda>") → FpOk X pins H1 f → s'.heap.get? f = some (lamObj X params body scope pm c' ctv) → H1 c' = some (CodeO c' (X.env.qual ++ "<lambda>")) → Q (.ref f) s') :
    wpAny (model X.prog X.w) X.A (eval (.Lambda params body scope pos) X.env) Q E s := by
  obtain ⟨ps, hP, ht, ha⟩ := id hT
  have bP : s.heap.BuiltinsAt X.mg P := TB.bm.keeps I.bk
  have oP : s.heap.get? P = some { cls := .none, data := .fields ps } := I.hok P _ hP
  refine PySem.W.kla_eval hdef ?_
  cases hc : codeAmong pos ps.toList with
  | some cv =>
    obtain ⟨c', e, hco⟩ := ha pos cv hc
    subst e
    refine PySem.W.kla_makeFunctionHit (mg := X.mg) (c := c) (P := P) (ps := ps) (closure_ok hfree) I.ok.glob (I.mod.glob.keeps I.bk) hcode (TB.code.keeps I.bk) oP ht hc bP fun ctv h' tk hx hsz => ?_
    have J : Inv X pins σ H { s with heap := h'.push (lamObj X params body scope ((X.mg "__name__").getD .none) c' ctv), toks := tk } := I.kept fun b o e => Heap.get?_push_of_some _ (hx b o e)
    exact h h'.objs.size c' _ ctv H _ J (ExtN.refl H) (Tu.refl H) (fun _ z => z) hT (I.fpOk hsz (I.hok.fresh hsz)) (Heap.get?_push_size _ rfl) hco
  | none =>
    refine PySem.W.kla_makeFunction (mg := X.mg) (c := c) (P := P) (ps := ps) (closure_ok hfree) I.ok.glob (I.mod.glob.keeps I.bk) hcode (TB.code.keeps I.bk) oP ht hc TB.gP bP fun c' ctv h' tk hx hge hlt hrec htb => ?_
    obtain ⟨c2, oc, vs, t, e2, hoc, hd, hv⟩ := hrec
    cases e2
    have hsz : s.heap.objs.size ≤ h'.objs.size := Nat.le_trans hge (Nat.le_of_lt hlt)
    have nC : H c' = none := I.hok.fresh hge
    have nPc : P ≠ c' := ne_of_none hP nC
    have J := inv_table (t' := tk) (more := #[rawInt pos.line, rawInt pos.col, .ref c']) (h' := h'.push (lamObj X params body scope ((X.mg "__name__").getD .none) c' ctv)) (q := X.env.qual ++ "<lambda>") I hP
      (fun b o hb e => Heap.get?_push_of_some _ (hx b o hb e)) (Heap.get?_push_of_some _ htb) hge ⟨oc, vs, t, Heap.get?_push_of_some _ hoc, hd, hv⟩
    have nP : ∀ {b : Addr} {u : HO}, H b = some u → (∀ q, u ≠ .tbl q) → b ≠ P := fun {b u} e n z => by
      rw [z, hP] at e
      exact n ps (Option.some.inj e).symm
    have same : ∀ {b : Addr} {u : HO}, H b = some u → (∀ q, u ≠ .tbl q) → upd (upd H P (.tbl (ps ++ #[rawInt pos.line, rawInt pos.col, .ref c']))) c' (CodeO c' (X.env.qual ++ "<lambda>")) b = some u := fun {b u} e n => by
      rw [upd_ne (ne_of_none e nC), upd_ne (nP e n)]
      exact e
    have hE : ExtN H (upd (upd H P (.tbl (ps ++ #[rawInt pos.line, rawInt pos.col, .ref c']))) c' (CodeO c' (X.env.qual ++ "<lambda>"))) := fun b o e n => same e n
    have nF : upd (upd H P (.tbl (ps ++ #[rawInt pos.line, rawInt pos.col, .ref c']))) c' (CodeO c' (X.env.qual ++ "<lambda>")) h'.objs.size = none := by
      rw [upd_ne (Nat.ne_of_gt hlt), upd_ne (Nat.ne_of_gt (Nat.lt_of_lt_of_le (Heap.lt_size oP) hsz))]
      exact I.hok.fresh hsz
    have old : ∀ b, upd (upd H P (.tbl (ps ++ #[rawInt pos.line, rawInt pos.col, .ref c']))) c' (CodeO c' (X.env.qual ++ "<lambda>")) b = none → H b = none := fun b z => by
      by_cases h1 : b = c'
      · rw [h1, upd_same] at z
        cases z
      · rw [upd_ne h1] at z
        by_cases h2 : b = P
        · rw [h2, upd_same] at z
          cases z
        · rwa [upd_ne h2] at z
    exact h h'.objs.size c' _ ctv _ _ J hE ⟨fun b xs e => same e (fun q z => nomatch z), fun b o u e => same e (fun q z => nomatch z)⟩ old (tabS_more hE (by rw [upd_ne nPc, upd_same]) ht ha upd_same) (I.fpOk hsz nF) (Heap.get?_push_size _ rfl) upd_same
end
def tLamV (X : Cx) (P : Addr) (params : Arguments) (body : Expr) (scope : Scope) : TE := fun _ H Q => TabS H P (X.env.qual ++ "<lambda>") ∧ ∀ (f c' : Addr) (pm ctv : Value) (H1 : Hp), ExtN H H1 → Tu H H1 → (∀ b, H1 b = none → H b = none) → TabS H1 P (X.env.qual ++ "<lambda>") → H1 f = none → H1 c' = some (CodeO c' (X.env.qual ++ "<lambda>")) →
  Q (.ref f) (upd H1 f (FnO f (lamObj X params body scope pm c' ctv)))
theorem pe_lamV {X : Cx} {c P : Addr} {params : Arguments} {body : Expr} {scope : Scope} {pos : Pos} (TB : TabB X.base X.mg c P) (hcode : X.env.code = .ref c) (hdef : defaultsOf params X.env = ([], []))
    (hfree : ∀ y ∈ scope.names, y.2 ≠ .free) : PE X (.Lambda params body scope pos) (tLamV X P params body scope) := by
  refine ⟨fun pins s σ H Q I h => ?_⟩
  obtain ⟨hT, h⟩ := h
  refine lam_new I TB hcode hT hdef (fun y hy e => absurd e (hfree y hy)) fun f c' pm ctv H1 s' J eN tu old T1 hf ho hc => ?_
  exact ⟨.ref f, _, track J hf (FnO.ok ho), rfl, h f c' pm ctv H1 eN tu old T1 hf.1 hc⟩

/-! ### a function that is called by value -/
def KeyFn (X : Cx) (f : Addr) (k : Nat) (sp : Sp) : Prop := ∀ (A : Around) (outer : List Env) (s : Shared) (H : Hp) (us : List Value) (vs : List V) (Q : VK), Room k A → Env0 X.prog X.w X.K X.mg X.base A outer s H → Vals vs us → sp vs H Q E0 →
  codeAny (model X.prog X.w) A (.call (.ref f) ⟨us, []⟩) (CR CX0 outer X.prog X.w H s Q E0) s
theorem keyFn_of {X : Cx} {N ps : List Str} {q : Str} {params : Arguments} {body : Expr} {scope : Scope} {pm ctv : Value} {c' f : Addr} {k : Nat} {sp : Sp} (S : FnScope N ps scope)
    (hbind : ∀ us : List Value, us.length = ps.length → bindArgs (PySem.W.kla_fn "<lambda>" q params body scope [] pm (.ref c') ctv) ⟨us, []⟩ = pure (ps.zip us)) (hlen : ∀ vs H Q, sp vs H Q E0 → vs.length = ps.length)
    (hbody : ∀ (A : Around) (outer : List Env) (s : Shared) (H : Hp) (vs : List V) (Q : VK), Room k (A.deeper (envOfC q scope s.heap.objs.size f (.ref c'))) → sp vs H Q E0 →
      ∃ t, PE (cxOf CX0 X.prog X.w X.K X.mg X.base N q scope f (.ref c') A outer s H E0).nox body t ∧ t (start N vs) H Q) :
    KeyFn X f (k + 1) (fun vs H Q E => H f = some (FnO f (PySem.W.kla_obj "<lambda>" q params body scope [] pm c' ctv)) ∧ H c' = some (CodeO c' q) ∧ sp vs H Q E) := by
  intro A outer s H us vs Q hr e0 rv h
  obtain ⟨hf, hc, h⟩ := h
  have hl := hlen vs H Q h
  have ho := FnO.at e0.hok hf
  obtain ⟨⟨oc, ovs, t, hoc, hdc, hvc⟩, _, _⟩ := e0.hok c' _ hc
  have lim : s.heap.NoLimit := e0.mod.nolimit.keeps fun b o e => (e0.bs b o e).1
  have hlu : us.length = ps.length := by rw [← rv.length]; exact hl
  refine PySem.W.kla_callFunE hr.depth ho rfl S.co S.gen rfl ⟨c', oc, ovs, t, rfl, hoc, hdc, hvc⟩ ?_
  rw [hbind us hlu]
  have hkind : ∀ y ∈ ps.zip us, scope.names.lookup y.1 = some .local ∨ (scope.names.lookup y.1 = some .cell ∧ ((cellsFrom (s.heap.objs.size + 1) scope.names []).lookup y.1).isSome = true) := fun ⟨n, v⟩ hy => by
    rcases S.par n (List.of_mem_zip hy).1 with z | z
    · exact .inl z
    · exact .inr ⟨z, PySem.W.cellsFrom_some _ _ _ (.inl z)⟩
  refine wpAny_pure (wpAny_newFunctionEnv_cells S.kind hkind fun env he s1 x => ?_)
  subst he
  refine ⟨lim.keeps x.toInCall.keep, PySem.W.kla_codeExpr ?_⟩
  obtain ⟨t, ht, hq⟩ := hbody A outer s H vs Q (hr.deeper _) h
  have I : Inv (cxOf CX0 X.prog X.w X.K X.mg X.base N q scope f (.ref c') A outer s H E0) [] (start N vs) H s1 := inv_start S hr.hd e0 hl rv x
  refine wpAny_mono (ht.nox.run [] s1 (start N vs) H _ I hq) (fun v s' hs => ?_) fun e s' hs => hs
  obtain ⟨w', H', J, rv', z⟩ := hs
  exact ⟨w', H', J.os, J.bare, J.base, J.hok, rv', z⟩
end K78
set_option Elab.async false
set_option linter.all false
set_option maxRecDepth 100000
/-! K78, part 6: sorted(xs, key=f). -/
namespace K78
open PySem PySem.Spec PyProof.Rows L2 Ob LamX

theorem zip_swap {α β γ δ : Type} (f : α → β) (g : γ → δ) : ∀ (as : List α) (cs : List γ), (cs.zip as).map (fun p => (f p.2, g p.1)) = (as.map f).zip (cs.map g)
  | [], [] => rfl
  | [], _ :: _ => rfl
  | _ :: _, [] => rfl
  | a :: as, c :: cs => by rw [List.zip_cons_cons, List.map_cons, zip_swap f g as cs, List.map_cons, List.map_cons, List.zip_cons_cons]
theorem vals_fst {h : Heap} {its : List Value} {ks : List Value} : ∀ {p : Value × Value}, p ∈ ks.zip its → p.1 ∈ ks ∧ p.2 ∈ its := fun {p} hp => ⟨(List.of_mem_zip (show (p.1, p.2) ∈ ks.zip its from hp)).1, (List.of_mem_zip (show (p.1, p.2) ∈ ks.zip its from hp)).2⟩
section
variable {X : Cx} {pins : List (Addr × Obj)} {σ : L2.St} {H : Hp} {s : Shared} {L : List Str}
/-- two records of ours: the list that is sorted, the key store -/
abbrev twoPins (pins : List (Addr × Obj)) (D kS : Addr) (e1 e : Nat) (keys : Array Value) : List (Addr × Obj) := pins ++ [(D, seqObj "list" #[] e1), (kS, seqObj "list" keys e)]
theorem pin_D {D kS : Addr} {e1 e : Nat} {keys : Array Value} : (D, seqObj "list" #[] e1) ∈ twoPins pins D kS e1 e keys := List.mem_append_right _ (.head _)
theorem pin_k {D kS : Addr} {e1 e : Nat} {keys : Array Value} : (kS, seqObj "list" keys e) ∈ twoPins pins D kS e1 e keys := List.mem_append_right _ (.tail _ (.head _))
theorem pin_o {D kS : Addr} {e1 e : Nat} {keys : Array Value} {p : Addr × Obj} (h : p ∈ pins) : p ∈ twoPins pins D kS e1 e keys := List.mem_append_left _ h
theorem noCell {xs : Array Value} {n : Nat} : ∀ v, (seqObj "list" xs n).data ≠ .cell v := fun v z => by cases z
/-- what stays of the two addresses through it all -/
structure Two (X : Cx) (pins : List (Addr × Obj)) (D kS : Addr) : Prop where
  ne : kS ≠ D
  dl : D ≠ X.env.locals
  df : D ∉ X.fs
  d3 : D ∈ X.ex ∨ X.s_0.heap.objs.size ≤ D
  dc : ∀ x c, X.env.cells.lookup x = some c → c ≠ D
  dp : ∀ p ∈ X.pn ++ pins, p.1 ≠ D
  kl : kS ≠ X.env.locals
  kf : kS ∉ X.fs
  k3 : kS ∈ X.ex ∨ X.s_0.heap.objs.size ≤ kS
  kc : ∀ x c, X.env.cells.lookup x = some c → c ≠ kS
  kp : ∀ p ∈ X.pn ++ pins, p.1 ≠ kS
/-- the key store is changed -/
theorem key_turn {D kS : Addr} {e1 e e' : Nat} {keys keys' : Array Value} {h' : Heap} (T : Two X pins D kS) (I : Inv X (twoPins pins D kS e1 e keys) σ H s) (k : ∀ b o, b ≠ kS → s.heap.get? b = some o → h'.get? b = some o) (hn : h'.get? kS = some (seqObj "list" keys' e')) :
    Inv X (twoPins pins D kS e1 e' keys') σ H { s with heap := h' } := by
  obtain ⟨d1, d2, _⟩ := I.pin _ (List.mem_append_right _ pin_D)
  obtain ⟨k1, k2, _⟩ := I.pin _ (List.mem_append_right _ pin_k)
  have I0 : Inv X pins σ H s := I.pins_of fun p hp => I.pin p (List.mem_append_right _ (pin_o hp))
  have I1 : Inv X pins σ H { s with heap := h' } := I0.turned (t' := s.toks) k k2 T.kl T.k3 T.kc T.kp
  refine I1.pins_of fun p hp => ?_
  rcases List.mem_append.mp hp with hp | hp
  · exact I1.pin p (List.mem_append_right _ hp)
  · rcases List.mem_cons.mp hp with rfl | hp
    · exact ⟨k _ _ (fun z => T.ne z.symm) d1, d2, T.dl, T.df, noCell⟩
    · rw [List.mem_singleton.mp hp]
      exact ⟨hn, k2, T.kl, T.kf, noCell⟩
/-- the end of it -/
theorem key_tail {D kS : Addr} {e1 e : Nat} {keys : Array Value} {its : List Value} {xs : List V} {ks : List F} {g : Heap} {st : SortSt} {E' : Value → Shared → Prop} {A : Around} {Q : VK} (T : Two X pins D kS) (I : Inv X (twoPins pins D kS e1 e keys) σ H s)
    (hz : its.length ≤ sizeLine) (hlen : keys.size = its.length) (rv : Vals xs its) (hx : ∀ x ∈ xs, ∃ a, x = V.ref a) (hk : keys.toList.map (decF g) = ks)
    (hp : (arrOf st).toList.Perm (keys.toList.zip its)) (hs : SrtO.Srtd (SrtO.lt2 (ltF g)) (arrOf st).toList) (hf : failedOf st = none)
    (q : ∀ zs : List V, (∃ ps : List (V × F), ps.Perm (xs.zip ks) ∧ ps.map (·.2) = F.srt ks ∧ zs = ps.map (·.1)) → H D = none → Q (.ref D) (upd H D (.lst zs))) :
    wpAny (model X.prog X.w) A (ksk_tail D false e1 (.ref kS) st) (fun f s' => f = .done (.ret .none) ∧ EP X pins σ Q (.ref D) s') E' s := by
  obtain ⟨d1, d2, _⟩ := I.pin _ (List.mem_append_right _ pin_D)
  obtain ⟨k1, k2, _⟩ := I.pin _ (List.mem_append_right _ pin_k)
  have d1 : s.heap.get? D = some (seqObj "list" #[] e1) := d1
  have k1 : s.heap.get? kS = some (seqObj "list" keys e) := k1
  have kept1 : ∀ b o, b ≠ kS → s.heap.get? b = some o → (s.heap.update kS (Obj.mapSeq fun _ => (#[] : Array Value))).get? b = some o := fun b o hb z => (Heap.get?_update_ne _ _ _ _ hb).trans z
  have d2' : (s.heap.update kS (Obj.mapSeq fun _ => (#[] : Array Value))).get? D = some (seqObj "list" #[] e1) := kept1 _ _ (fun z => T.ne z.symm) d1
  unfold ksk_tail
  refine wpAny_bind (listUpdate_at k1 rfl ?_ (by rw [hlen]; exact hz) (Nat.zero_le _))
  refine wpAny_bind (wpAny_letGo ?_)
  refine wpAny_bind (seqEpoch_at d2' rfl ?_)
  have hsz : (arrOf st).size = its.length := by
    have z := hp.length_eq
    rw [Array.length_toList, List.length_zip, Array.length_toList, hlen, Nat.min_self] at z
    exact z
  refine wpAny_bind (listUpdate_at d2' rfl ?_ (Nat.zero_le _) (by simp only [Bool.false_eq_true, if_false, Array.size_map]; rw [hsz]; exact Nat.le_succ_of_le hz))
  rw [hf]
  simp only [bne_self_eq_false, Bool.false_eq_true, if_false]
  refine wpAny_pure ⟨rfl, ?_⟩
  have I0 : Inv X pins σ H s := I.pins_of fun p hp => I.pin p (List.mem_append_right _ (pin_o hp))
  have I1 : Inv X pins σ H { s with heap := s.heap.update kS (Obj.mapSeq fun _ => (#[] : Array Value)) } := I0.turned (t' := s.toks) kept1 k2 T.kl T.k3 T.kc T.kp
  generalize s.heap.update kS (Obj.mapSeq fun _ => (#[] : Array Value)) = h1 at d2' I1 ⊢
  clear kept1
  generalize hout : (arrOf st).map (fun p : Keyed => p.2) = out
  obtain ⟨c2, hc2⟩ : ∃ c2, (h1.update D (Obj.mapSeq fun _ => out)).get? D = some (seqObj "list" out c2) := ⟨_, get?_update_seq d2' fun _ => out⟩
  have I2 : Inv X pins σ H { s with heap := h1.update D (Obj.mapSeq fun _ => out) } :=
    I1.turned (t' := s.toks) (fun b o hb z => (Heap.get?_update_ne _ _ _ _ hb).trans z) d2 T.dl T.d3 T.dc T.dp
  have hback := refs_back rv hx
  have hmem : ∀ p ∈ (arrOf st).toList, ∃ a, p.2 = Value.ref a := fun p hm => hback.2 p.2 (vals_fst (h := g) (hp.mem_iff.mp hm)).2
  have hv : Vals (((arrOf st).toList.map (fun p : Keyed => p.2)).map backV) ((arrOf st).toList.map (fun p : Keyed => p.2)) := vals_back fun u hu => by
    obtain ⟨p, hp1, rfl⟩ := List.mem_map.mp hu
    exact hmem p hp1
  have earr : out = ((arrOf st).toList.map (fun p : Keyed => p.2)).toArray := by
    rw [← hout]
    apply Array.ext'
    simp
  have hlz : (((arrOf st).toList.map (fun p : Keyed => p.2)).map backV).length ≤ sizeLine := by
    rw [List.length_map, List.length_map, Array.length_toList, hsz]
    exact hz
  have I3 := track (o := .lst (((arrOf st).toList.map (fun p : Keyed => p.2)).map backV)) I2 ⟨d2, T.dl, T.df, T.d3, T.dc, T.dp⟩ ⟨hlz, _, c2, hv, by rw [← earr]; exact hc2⟩
  refine ⟨.ref D, _, I3, rfl, q _ ⟨(arrOf st).toList.map (fun p => (backV p.2, decF g p.1)), ?_, ?_, ?_⟩ d2⟩
  · have z := hp.map (fun p => (backV p.2, decF g p.1))
    rw [zip_swap backV (decF g), ← hback.1, hk] at z
    exact z
  · rw [List.map_map]
    refine F.srt_of (List.pairwise_map.mpr hs) ?_
    have z := hp.map (fun p : Value × Value => decF g p.1)
    have e : (keys.toList.zip its).map (fun p : Value × Value => decF g p.1) = ks := by
      rw [← hk, show (fun p : Value × Value => decF g p.1) = decF g ∘ Prod.fst from rfl, ← List.map_map, List.map_fst_zip (by rw [Array.length_toList, hlen]; exact Nat.le_refl _)]
    rw [e] at z
    exact z
  · rw [List.map_map, List.map_map]
    rfl
end
def rSortK (X : Cx) (L : List Str) (kk : Nat) : List V → List V → Hp → VK → Prop := fun vs zs H Q => ∃ (a f : Addr) (xs : List V) (ks : List F) (J : Hp → Prop) (sp : Sp), vs = [V.ref a] ∧ zs = [V.ref f] ∧ SqL X.K H a xs ∧ (∀ x ∈ xs, ∃ p, x = V.ref p) ∧ ks.length = xs.length ∧ F.oks L ks ∧ F.depths ks ≤ 60 ∧
  KeyFn X f kk sp ∧ J H ∧ (∀ (i : Nat) (x : V) (k : F) (H1 : Hp), xs[i]? = some x → ks[i]? = some k → Tu H H1 → J H1 → sp [x] H1 (fun v H2 => J H2 ∧ IsF X.K H2 v k) E0) ∧
  ∀ H2 D zs', J H2 → Tu H H2 → H2 D = none → (∃ ps : List (V × F), ps.Perm (xs.zip ks) ∧ ps.map (·.2) = F.srt ks ∧ zs' = ps.map (·.1)) → Q (.ref D) (upd H2 D (.lst zs'))
theorem cr_sortedKeyF {X : Cx} {L : List Str} {kk : Nat} (hL : strOk7 L) (hr : Room (kk + 1) X.A) : CallRK X (.builtin "sorted") [Str.ofString "key"] (rSortK X L kk) := by
  intro pins s σ H vs zs us ws Q I r rz h
  obtain ⟨a, f, xs, ks, J, sp, rfl, rfl, hs, hx, hkl, ok, hd, KF, j0, call, q⟩ := h
  obtain rfl := Vals.ref1 r
  obtain rfl := Vals.ref1 rz
  obtain ⟨its, rv, hl, hz⟩ := I.list hs
  have hzi : its.length ≤ sizeLine := by rw [← rv.length]; exact hz
  have hun := hr.un
  have hr2 : Room kk X.A.in1.in1 := ⟨hr.hd, by have := hr.dp; show X.A.depth + 3 * kk + 5 < _; omega, by show X.A.units + 1 + 1 + 16 * kk + 200 < _; omega⟩
  refine PySem.W.sorted_of_sort hl.isList hzi (ksk_s1 _ _) (fun _ => ksk_l1 _ _) (fun E' => ?_)
  show wpAny (model X.prog X.w) X.A.in1.in1 (Builtin.«list.sort» ⟨[.ref (s.heap.objs.size + 1)], [(Str.ofString "key", .ref f)]⟩) _ _ _
  rw [ksk_t1]
  have hD0 := PySem.W.copyHeap_at s.heap its
  have I0 : Inv X pins σ H { s with heap := PySem.W.copyHeap s.heap its } := I.kept (t' := s.toks) fun b o e => PySem.W.copyHeap_old e
  have fD : FpOk X pins H (s.heap.objs.size + 1) := I.fpOk (Nat.le_succ _) (I.hok.fresh (Nat.le_succ _))
  generalize s.heap.objs.size + 1 = D at hD0 fD ⊢
  obtain ⟨g0, g1, g2, g3, g4, g5⟩ := fD
  have hDlt := Heap.lt_size hD0
  unfold ksk_tree
  refine wpAny_bind (listItems_at hD0 rfl ?_)
  refine wpAny_bind (listUpdate_at hD0 rfl ?_ (by rw [List.size_toArray]; exact hzi) (Nat.zero_le _))
  obtain ⟨e1, hD1⟩ : ∃ e1, ((PySem.W.copyHeap s.heap its).update D (Obj.mapSeq fun _ => (#[] : Array Value))).get? D = some (seqObj "list" #[] e1) := ⟨_, get?_update_seq hD0 fun _ => #[]⟩
  refine wpAny_bind (seqEpoch_at hD1 rfl ?_)
  refine wpAny_bind (wpAny_newTuple ?_ (by show its.length ≤ _; exact hzi))
  refine wpAny_bind (wpAny_newList ?_ (Nat.zero_le _))
  refine wpAny_holding ?_
  have I1 : Inv X pins σ H { s with heap := (PySem.W.copyHeap s.heap its).update D (Obj.mapSeq fun _ => (#[] : Array Value)) } := I0.turned (t' := s.toks) (fun b o hb e => (Heap.get?_update_ne _ _ _ _ hb).trans e) g0 g1 g3 g4 g5
  have I2 : Inv X pins σ H { s with heap := ((PySem.W.copyHeap s.heap its).update D (Obj.mapSeq fun _ => (#[] : Array Value))).push (seqObj "tuple" its.toArray 0) } := I1.kept (t' := s.toks) fun b o e => Heap.get?_push_of_some _ e
  have hD2 : (((PySem.W.copyHeap s.heap its).update D (Obj.mapSeq fun _ => (#[] : Array Value))).push (seqObj "tuple" its.toArray 0)).get? D = some (seqObj "list" #[] e1) := Heap.get?_push_of_some _ hD1
  have hlt2 := Heap.lt_size hD2
  show wpAny _ _ (ksk_rest D (.ref f) false its.toArray e1 (.ref (((PySem.W.copyHeap s.heap its).update D (Obj.mapSeq fun _ => (#[] : Array Value))).push (seqObj "tuple" its.toArray 0)).objs.size)) _ _
    { s with heap := (((PySem.W.copyHeap s.heap its).update D (Obj.mapSeq fun _ => (#[] : Array Value))).push (seqObj "tuple" its.toArray 0)).push (seqObj "list" #[] 0) }
  generalize ((PySem.W.copyHeap s.heap its).update D (Obj.mapSeq fun _ => (#[] : Array Value))).push (seqObj "tuple" its.toArray 0) = h2 at I2 hD2 hlt2 ⊢
  have fK : FpOk X pins H h2.objs.size := I2.fpOk (Nat.le_refl _) (I2.hok.fresh (Nat.le_refl _))
  have hK : (h2.push (seqObj "list" #[] 0)).get? h2.objs.size = some (seqObj "list" #[] 0) := Heap.get?_push_size _ rfl
  have I3 : Inv X pins σ H { s with heap := h2.push (seqObj "list" #[] 0) } := I2.kept (t' := s.toks) fun b o e => Heap.get?_push_of_some _ e
  have hD3 : (h2.push (seqObj "list" #[] 0)).get? D = some (seqObj "list" #[] e1) := Heap.get?_push_of_some _ hD2
  have hne : h2.objs.size ≠ D := Nat.ne_of_gt hlt2
  generalize h2.objs.size = kS at fK hK hne ⊢
  generalize h2.push (seqObj "list" #[] 0) = h3 at hK I3 hD3 ⊢
  obtain ⟨f0, f1, f2, f3, f4, f5⟩ := fK
  have T : Two X pins D kS := ⟨hne, g1, g2, g3, g4, g5, f1, f2, f3, f4, f5⟩
  have IP : Inv X (twoPins pins D kS e1 0 #[]) σ H { s with heap := h3 } := I3.pins_of fun p hp => by
    rcases List.mem_append.mp hp with hp | hp
    · exact I3.pin p (List.mem_append_right _ hp)
    · rcases List.mem_cons.mp hp with rfl | hp
      · exact ⟨hD3, g0, g1, g2, noCell⟩
      · rw [List.mem_singleton.mp hp]
        exact ⟨hK, f0, f1, f2, noCell⟩
  unfold ksk_rest
  refine wpAny_bind (wpAny_rule ?_)
  first
    | rw [List.forIn_toArray]
    | (rw [← Array.forIn_toList]; simp only [List.toList_toArray])
  refine wpAny_bind (ksk_fold (fun i s' => ∃ (H' : Hp) (vks : List V) (keys : Array Value) (e : Nat), Inv X (twoPins pins D kS e1 e keys) σ H' s' ∧ Tu H H' ∧ J H' ∧ Vals vks keys.toList ∧ AreF X.K H' vks (ks.take i)) its 0 { s with heap := h3 }
    ⟨H, [], #[], 0, IP, Tu.refl H, j0, by simpa using Paired.nil, by rw [List.take_zero]; exact AreF.nil⟩ ?step ?done)
  case step =>
    rintro j u s' hu ⟨H', vks, keys, e, I', tu, jj, rk, hA⟩
    simp only [Nat.zero_add] at hA ⊢
    have hj : j < its.length := (List.getElem?_eq_some_iff.mp hu).1
    have hjx : j < xs.length := by rw [rv.length]; exact hj
    have hjk : j < ks.length := by rw [hkl]; exact hjx
    have hxj : xs[j]? = some xs[j] := List.getElem?_eq_getElem hjx
    have hkj : ks[j]? = some ks[j] := List.getElem?_eq_getElem hjk
    obtain ⟨u', hu', ru⟩ := rv.get hxj
    rw [hu] at hu'
    cases hu'
    refine wpAny_bind (wpAny_attempt ?_)
    refine wpAny_call (codeAny_mono (KF X.A.in1.in1 X.stack s' H' [u] [xs[j]] _ hr2 I'.env0.in1.in1 (.cons ru .nil) (call j _ _ H' hxj hkj tu jj)) fun r s2 hq => ?_)
    cases r with
    | error e => exact False.elim hq
    | ok fl =>
      cases fl with
      | next => exact False.elim hq
      | brk => exact False.elim hq
      | cont => exact False.elim hq
      | ret kv =>
        obtain ⟨v, H2, os, bare, un, hok, rkv, j2, hF⟩ := hq
        have I2' : Inv X (twoPins pins D kS e1 e keys) σ H2 s2 := I'.call' (ch := []) os un hok bare fun b hb => absurd hb (by simp)
        have hk1 : s2.heap.get? kS = some (seqObj "list" keys e) := (I2'.pin _ (List.mem_append_right _ pin_k)).1
        have hkz : keys.size = j := by
          have z : vks.length = keys.size := by rw [← Array.length_toList]; exact rk.length
          rw [hA.len, List.length_take] at z
          omega
        try dsimp only
        obtain ⟨c2, hc2⟩ : ∃ c2, (s2.heap.update kS (Obj.mapSeq (·.push kv))).get? kS = some (seqObj "list" (keys.push kv) c2) := ⟨_, get?_update_seq hk1 (·.push kv)⟩
        refine wpAny_bind (listUpdate_at hk1 rfl ?_ (by rw [hkz]; omega) (Nat.le_trans (Nat.le_of_eq (Array.size_push ..)) (by rw [hkz]; omega)))
        have tu2 := Tu.un un
        refine wpAny_pure ⟨rfl, H2, vks ++ [v], keys.push kv, c2, key_turn T I2' (fun b o hb z => (Heap.get?_update_ne _ _ _ _ hb).trans z) hc2, tu.trans tu2, j2, ?_, ?_⟩
        · rw [Array.toList_push]
          exact rk.append (.cons rkv .nil)
        · rw [List.take_add_one, hkj]
          exact (tu2.areF hA).append (AreF.cons hF AreF.nil)
  case done =>
    rintro s' ⟨H', vks, keys, e, I', tu, jj, rk, hA⟩
    rw [Nat.zero_add, List.take_of_length_le (by rw [hkl, rv.length]; exact Nat.le_refl _)] at hA
    have hk1 : s'.heap.get? kS = some (seqObj "list" keys e) := (I'.pin _ (List.mem_append_right _ pin_k)).1
    have hlen : keys.size = its.length := by
      have z : vks.length = keys.size := by rw [← Array.length_toList]; exact rk.length
      rw [hA.len, hkl, rv.length] at z
      exact z.symm
    try dsimp only
    refine wpAny_bind (listItems_at hk1 rfl ?_)
    have p := FsAt.of I' ks vks keys.toList hA rk
    have hks : keys.toList.map (decF s'.heap) = ks := decF_map p
    have fin : ∀ st : SortSt, (arrOf st).toList.Perm (keys.toList.zip its) → SrtO.Srtd (SrtO.lt2 (ltF s'.heap)) (arrOf st).toList → failedOf st = none →
        wpAny (model X.prog X.w) X.A.in1.in1 (ksk_tail D false e1 (.ref kS) st) (fun f s' => f = .done (.ret .none) ∧ EP X pins σ Q (.ref D) s') E' s' := fun st hp hs hf =>
      key_tail T I' hzi hlen rv hx hks hp hs hf fun zs hzs hn => q H' D zs jj tu hn hzs
    unfold ksk_end
    dsimp only
    rw [if_neg Bool.false_ne_true]
    have ezip : (keys.zip its.toArray).toList = keys.toList.zip its := by simp
    by_cases h2 : its.toArray.size < 2
    · rw [if_pos h2, if_pos h2]
      refine wpAny_bind (wpAny_pure ?_)
      rw [StateT.run_pure]
      refine wpAny_bind (wpAny_pure ?_)
      refine fin (SortSt.mk' general' (keys.zip its.toArray) #[] 7 none) (by show (keys.zip its.toArray).toList.Perm _; rw [ezip]) ?_ rfl
      show SrtO.Srtd _ (keys.zip its.toArray).toList
      have hl1 : (keys.zip its.toArray).toList.length < 2 := by
        rw [ezip, List.length_zip]
        rw [List.size_toArray] at h2
        omega
      match (keys.zip its.toArray).toList, hl1 with
      | [], _ => exact List.Pairwise.nil
      | [v], _ => exact List.pairwise_singleton _ _
      | _ :: _ :: l, h => exact absurd h (by rw [List.length_cons, List.length_cons]; omega)
    · rw [if_neg h2, if_neg h2]
      rw [List.size_toArray] at h2
      have kk0 : KeepsT s'.heap s'.heap := fun _ _ z => z
      have ek : keys = keys.toList.toArray := by simp
      refine wpAny_bind ?_
      rw [ek]
      refine kindF p kk0 (by rw [Array.length_toList]; omega) ?_
      have hcmp := keysF (prog := X.prog) (w := X.w) (A := X.A.in1.in1) (s := s') hL p kk0 ok (by show X.A.units + 1 + 1 + 2 * F.depths ks < cLine; omega)
      refine wpAny_bind (wpAny_mono (SrtO.wpS_sortO (st0 := SortSt.mk' (tuples' true) (keys.toList.toArray.zip its.toArray) #[] 7 none)
        (Q := fun _ st' => SrtO.Srtd (SrtO.lt2 (ltF s'.heap)) (arrOf st').toList ∧ (arrOf st').toList.Perm (keys.toList.zip its) ∧ failedOf st' = none) (SrtO.swo2 (swoF s'.heap)) hcmp rfl (fun pr hm => ?_) rfl rfl fun st' a1 a2 a3 => ⟨a1, ?_, a3⟩) ?_ fun _ _ z => z)
      · have hm : pr ∈ (keys.toList.toArray.zip its.toArray).toList := hm
        rw [← ek, ezip] at hm
        exact (vals_fst (h := s'.heap) hm).1
      · have z := a2.perm
        have z : (arrOf st').toList.Perm (keys.toList.toArray.zip its.toArray).toList := z
        rw [← ek, ezip] at z
        exact z
      · rintro ⟨⟨⟩, st'⟩ s'' ⟨rfl, a1, a2, a3⟩
        exact fin st' a2 a1 a3
end K78
set_option Elab.async false
set_option linter.all false
set_option maxRecDepth 100000
/-! K78, part 7: the text by places, what the top leaves, how heaps go on. -/
namespace K78
open PySem PySem.Spec PyProof.Rows L2 LamX

def topS (i : Nat) : Stmt := PySem.Challenge.pw_everyslice_k78_whole_normal_forms.main.body.getD i (.Pass ⟨0, 0, 0, 0⟩)
/-- a def of the text as it stands behind the top -/
structure Def (K : PySem.W.Frag) (mg : Str → Option Value) (x : Str) (st : Stmt) (ps : List Str) where
  f : Addr
  fd : FuncData
  fn : Fun K x x st f fd
  b : Binds K fd ps []
  m : mg x = some (.ref f)
section
variable {X : Cx}
theorem pe_def {x : Str} {st : Stmt} {ps : List Str} {k : Nat} {sp : Sp} {e : Expr} {es : List Expr} {t : TA} {p pos : Pos} (d : Def X.K X.mg x st ps) (G : FnOk X.prog X.w X.K X.mg X.base CX0 k d.f d.fd ps sp) (hr : Room k X.A) (ha : PA X (e :: es) t)
    (hg : Gl X x := by rfl) (hdb : (x == ("__debug__" : Str)) = false := by decide) (he : starEach (e :: es) X.env = (false, eval e X.env) :: starEach es X.env := by rfl) (hpl : (backTo pos (starEach es X.env)).any (·.1) = false := by rfl) :
    PE X (.Call (.Name x p) (e :: es) [] pos) (tCall sp [] E0 t) := pe_call G hr hg d.m d.fn.kp d.b .nil pass0 ha hdb he hpl
/-- a constant of the module -/
theorem pe_gi {x : Str} {i : Int} {t : Tok} {pos : Pos} (hm : X.mg x = some (.int i t)) (hg : Gl X x := by rfl) (hd : (x == ("__debug__" : Str)) = false := by decide) : PE X (.Name x pos) (tC (.int i)) := pe_glob (v := .int i) hg hm ⟨_, rfl⟩ hd
theorem pe_gs {x z : Str} {t : Tok} {pos : Pos} (hm : X.mg x = some (.str z t)) (hg : Gl X x := by rfl) (hd : (x == ("__debug__" : Str)) = false := by decide) : PE X (.Name x pos) (tC (.str z)) := pe_glob (v := .str z) hg hm ⟨_, rfl⟩ hd
theorem pe_gr {x : Str} {a : Addr} {pos : Pos} (hm : X.mg x = some (.ref a)) (hg : Gl X x := by rfl) (hd : (x == ("__debug__" : Str)) = false := by decide) : PE X (.Name x pos) (tC (.ref a)) := pe_glob (v := .ref a) hg hm rfl hd
end
/-- what the walks ask of the module's names -/
structure Txt (K : PySem.W.Frag) (mg : Str → Option Value) (w : World) where
  isinstance : mg "isinstance" = none
  int : mg "int" = none
  bool : mg "bool" = none
  str : mg "str" = none
  tuple : mg "tuple" = none
  list : mg "list" = none
  len : mg "len" = none
  all : mg "all" = none
  sorted : mg "sorted" = none
  max : mg "max" = none
  min : mg "min" = none
  abs : mg "abs" = none
  sum : mg "sum" = none
  range : mg "range" = none
  t1 : Tok
  t2 : Tok
  t3 : Tok
  t4 : Tok
  t5 : Tok
  t6 : Tok
  t7 : Tok
  t8 : Tok
  t9 : Tok
  t10 : Tok
  t11 : Tok
  t12 : Tok
  LETTER : mg "LETTER" = some (.str "letter" t1)
  MINE : mg "MINE" = some (.str "mine" t2)
  THEIRS : mg "THEIRS" = some (.str "theirs" t3)
  MOST_LETTERS : mg "MOST_LETTERS" = some (.int 24 t4)
  MAX_DEEP : mg "MAX_DEEP" = some (.int 8 t5)
  MOST_NAME : mg "MOST_NAME" = some (.int 8 t6)
  TRIPLE_words : mg "TRIPLE_words" = some (.int 3 t7)
  SIGNS : mg "SIGNS" = some (.str "abcdefghijklmnopqrstuvwxyz" t8)
  MOST_FORM : mg "MOST_FORM" = some (.int 200 t9)
  TRIPLE_alike : mg "TRIPLE_alike" = some (.int 3 t10)
  aK : Addr
  KINDS : mg "KINDS" = some (.ref aK)
  kinds : ∀ H, SqT K H aK [.str "letter", .str "both", .str "either", .str "mine", .str "theirs"]
  aC : Addr
  CHOICES : mg "CHOICES" = some (.ref aC)
  choices : ∀ H, SqT K H aC [.str "mine", .str "theirs"]
  aS : Addr
  SPREADS : mg "SPREADS" = some (.ref aS)
  spreadB : KDct K w aS "both" (.str "mine")
  spreadE : KDct K w aS "either" (.str "theirs")

/-! ### how heaps go on -/
/-- the name of gathered's lambda -/
def lamQ : Str := ("gathered" : Str) ++ ".<locals>." ++ "<lambda>"
/-- all that was tracked stands, but what lies at ex; P: the table of gathered's code -/
structure Gx (P : Addr) (ex : List Addr) (H H' : Hp) : Prop where
  ext : ∀ b o, b ∉ ex → H b = some o → (∀ ps, o ≠ .tbl ps) → H' b = some o
  tu : Tu H H'
  tab : TabS H P lamQ → TabS H' P lamQ
  old : ∀ b, H' b = none → H b = none
theorem upd_old {H : Hp} {p b : Addr} {o : HO} (h : upd H p o b = none) : H b = none := by
  by_cases e : b = p
  · rw [e, upd_same] at h
    cases h
  · rwa [upd_ne e] at h
section
variable {P : Addr} {ex ex' : List Addr} {H H1 H2 H' : Hp}
theorem Gx.refl (P : Addr) (ex : List Addr) (H : Hp) : Gx P ex H H := ⟨fun _ _ _ e _ => e, Tu.refl H, fun t => t, fun _ z => z⟩
theorem Gx.trans (a : Gx P ex H H1) (b : Gx P ex H1 H2) : Gx P ex H H2 := ⟨fun c o hc e n => b.ext c o hc (a.ext c o hc e n) n, a.tu.trans b.tu, fun t => b.tab (a.tab t), fun c z => a.old c (b.old c z)⟩
theorem Gx.mono (a : Gx P ex H H1) (h : ∀ b ∈ ex, b ∈ ex') : Gx P ex' H H1 := ⟨fun c o hc e n => a.ext c o (fun z => hc (h c z)) e n, a.tu, a.tab, a.old⟩
theorem Gx.more (a : Gx P [] H H1) : Gx P ex H H1 := a.mono fun b hb => absurd hb (by simp)
theorem Gx.new {p : Addr} {o : HO} (h : H p = none) : Gx P ex H (upd H p o) :=
  ⟨fun b u _ e _ => by rw [upd_ne (ne_of_none e h)]; exact e, Tu.new h, fun t => t.ext fun b u e => by rw [upd_ne (ne_of_none e h)]; exact e, fun _ z => upd_old z⟩
theorem tabS_lst {D : Addr} {xs ys : List V} {q : Str} (h : H D = some (.lst xs)) (t : TabS H P q) : TabS (upd H D (.lst ys)) P q := by
  obtain ⟨ps, h1, h2, h3⟩ := t
  refine ⟨ps, by rw [upd_ne (ne_of h1 h (fun z => nomatch z))]; exact h1, h2, fun pos cv hc => ?_⟩
  obtain ⟨c, e1, e2⟩ := h3 pos cv hc
  exact ⟨c, e1, by rw [upd_ne (ne_of e2 h (fun z => nomatch z))]; exact e2⟩
/-- a list is changed -/
theorem Gx.lst {D : Addr} {xs ys : List V} (h : H D = some (.lst xs)) : Gx P [D] H (upd H D (.lst ys)) :=
  ⟨fun b u hb e _ => by rw [upd_ne (fun z => hb (by simp [z]))]; exact e, Tu.lst h, tabS_lst h, fun _ z => upd_old z⟩
/-- a list that is younger than H is changed -/
theorem Gx.own {D : Addr} {xs ys : List V} (a : Gx P ex H H1) (hn : H D = none) (h : H1 D = some (.lst xs)) : Gx P ex H (upd H1 D (.lst ys)) :=
  ⟨fun b u hb e n => by rw [upd_ne (ne_of_none e hn)]; exact a.ext b u hb e n, a.tu.trans (Tu.lst h), fun t => tabS_lst h (a.tab t), fun c z => a.old c (upd_old z)⟩
theorem Gx.lstA {D : Addr} {xs : List V} (a : Gx P ex H H1) (hD : D ∉ ex) (h : H D = some (.lst xs)) : H1 D = some (.lst xs) := a.ext D _ hD h (fun _ z => nomatch z)
theorem Gx.tupA {D : Addr} {xs : List V} (a : Gx P ex H H1) (h : H D = some (.tup xs)) : H1 D = some (.tup xs) := a.tu.tups D _ h
theorem Gx.seqL {K : PySem.W.Frag} {D : Addr} {xs : List V} (a : Gx P ex H H1) (hD : D ∉ ex) (h : SqL K H D xs) : SqL K H1 D xs := by
  rcases h with (h | ⟨o, h⟩) | h
  · exact .inl (.inl (a.lstA hD h))
  · exact .inl (.inr ⟨o, a.tu.frzs _ _ _ h⟩)
  · exact .inr h
end

/-! ### forms with paths -/
inductive P where
  | lt (n : Str) (s : Int) (path : List Int)
  | nd (k : Kd) (ps : List P)
namespace P
mutual
def bare : P → F
  | lt n s _ => .lt n s
  | nd k ps => .nd k (bares ps)
def bares : List P → List F
  | [] => []
  | p :: ps => bare p :: bares ps
end
mutual
def data : P → PyData
  | lt n s path => .tuple [.str "letter", .str n, .int s, .tuple (path.map PyData.int)]
  | nd k ps => .tuple [.str k.name, .tuple (datas ps)]
def datas : List P → List PyData
  | [] => []
  | p :: ps => data p :: datas ps
end
def parts (k : Kd) : P → List P
  | lt n s path => [lt n s path]
  | nd l ps => if l = k then ps else [nd l ps]
theorem bares_map : ∀ ps : List P, bares ps = ps.map bare
  | [] => rfl
  | p :: ps => by rw [bares, bares_map ps, List.map_cons]
theorem parts_bare (k : Kd) (p : P) : (parts k p).map bare = F.parts k (bare p) := by
  cases p with
  | lt n s path => rfl
  | nd l ps =>
    have e : bare (nd l ps) = .nd l (bares ps) := by rw [bare]
    have e2 : parts k (nd l ps) = if l = k then ps else [nd l ps] := rfl
    rw [e, F.parts_nd, e2]
    by_cases h : l = k
    · rw [if_pos h, if_pos h, bares_map]
    · rw [if_neg h, if_neg h, List.map_cons, e]
      rfl
theorem data_lt (n : Str) (s : Int) (path : List Int) : data (lt n s path) = .tuple [.str "letter", .str n, .int s, .tuple (path.map PyData.int)] := by rw [data]
theorem data_nd (k : Kd) (ps : List P) : data (nd k ps) = .tuple [.str k.name, .tuple (datas ps)] := by rw [data]
theorem tup_ints : ∀ path : List Int, tupOnlys (path.map PyData.int) = true
  | [] => by rw [List.map_nil]; simp only [tupOnlys]
  | i :: path => by rw [List.map_cons]; simp only [tupOnlys, tupOnly, tup_ints path, Bool.and_self]
mutual
theorem tup : ∀ p : P, tupOnly (data p) = true
  | lt n s path => by rw [data_lt]; simp only [tupOnly, tupOnlys, tup_ints path, Bool.and_self]
  | nd k ps => by rw [data_nd]; simp only [tupOnly, tupOnlys, tups ps, Bool.and_self]
theorem tups : ∀ ps : List P, tupOnlys (datas ps) = true
  | [] => by rw [datas]; simp only [tupOnlys]
  | p :: ps => by rw [datas]; simp only [tupOnlys, tup p, tups ps, Bool.and_self]
end
end P
abbrev IsP (K : PySem.W.Frag) (H : Hp) (v : V) (p : P) : Prop := Dp K H v (P.data p)
abbrev AreP (K : PySem.W.Frag) (H : Hp) (vs : List V) (ps : List P) : Prop := DpAll K H vs (P.datas ps)
section
variable {K : PySem.W.Frag} {H H' : Hp}
theorem Tu.isP (t : Tu H H') {v : V} {p : P} (x : IsP K H v p) : IsP K H' v p := t.dp _ _ (P.tup p) x
theorem Tu.areP (t : Tu H H') {vs : List V} {ps : List P} (x : AreP K H vs ps) : AreP K H' vs ps := t.dps _ _ (P.tups ps) x
theorem AreP.nil : AreP K H [] [] := by
  show DpAll K H [] (P.datas [])
  rw [P.datas]
  exact .nil
theorem AreP.cons {v : V} {vs : List V} {p : P} {ps : List P} (x : IsP K H v p) (y : AreP K H vs ps) : AreP K H (v :: vs) (p :: ps) := by
  show DpAll K H (v :: vs) (P.datas (p :: ps))
  rw [P.datas]
  exact .cons x y
theorem AreP.inv {v : V} {vs : List V} {p : P} {ps : List P} (x : AreP K H (v :: vs) (p :: ps)) : IsP K H v p ∧ AreP K H vs ps := by
  have x : DpAll K H (v :: vs) (P.datas (p :: ps)) := x
  rw [P.datas] at x
  cases x with
  | cons a b => exact ⟨a, b⟩
theorem AreP.len : ∀ {vs : List V} {ps : List P}, AreP K H vs ps → vs.length = ps.length
  | [], [], _ => rfl
  | v :: vs, [], x => by
    have x : DpAll K H (v :: vs) (P.datas []) := x
    rw [P.datas] at x
    cases x
  | [], p :: ps, x => by
    have x : DpAll K H [] (P.datas (p :: ps)) := x
    rw [P.datas] at x
    cases x
  | v :: vs, p :: ps, x => by rw [List.length_cons, List.length_cons, AreP.len x.inv.2]
theorem AreP.get : ∀ {vs : List V} {ps : List P} {i : Nat} {v : V}, AreP K H vs ps → vs[i]? = some v → ∃ p, ps[i]? = some p ∧ IsP K H v p
  | [], _, _, _, _, e => by simp at e
  | v :: vs, [], _, _, x, _ => by have := x.len; simp at this
  | v :: vs, p :: ps, 0, _, x, e => by
    simp at e
    subst e
    exact ⟨p, rfl, x.inv.1⟩
  | v :: vs, p :: ps, i + 1, _, x, e => by
    obtain ⟨q, h1, h2⟩ := AreP.get (i := i) x.inv.2 (by simpa using e)
    exact ⟨q, by simpa using h1, h2⟩
theorem AreP.append : ∀ {vs ws : List V} {ps qs : List P}, AreP K H vs ps → AreP K H ws qs → AreP K H (vs ++ ws) (ps ++ qs)
  | [], _, [], _, _, y => y
  | v :: vs, _, [], _, x, _ => by have := x.len; simp at this
  | [], _, p :: ps, _, x, _ => by have := x.len; simp at this
  | v :: vs, ws, p :: ps, qs, x, y => AreP.cons x.inv.1 (AreP.append x.inv.2 y)
theorem AreF.get' : ∀ {vs : List V} {fs : List F} {i : Nat} {v : V}, AreF K H vs fs → vs[i]? = some v → ∃ f, fs[i]? = some f ∧ IsF K H v f := fun {vs fs i v} x e => by
  have hl := x.len
  have hi : i < fs.length := by rw [← hl]; exact (List.getElem?_eq_some_iff.mp e).1
  exact ⟨fs[i], List.getElem?_eq_getElem hi, x.get e (List.getElem?_eq_getElem hi)⟩

/-! ### words, forms taken apart -/
theorem SqT.at {a : Addr} {xs : List V} {i : Nat} {v : V} (h : SqT K H a xs) (e : xs[i]? = some v) : atI xs (i : Int) = some v := atI_nat e
theorem isW_lt {v : V} {n : Str} {s : Int} (x : IsW K H v (.lt n s)) : ∃ a, v = .ref a ∧ SqT K H a [.str "letter", .str n, .int s] := by
  have x : Dp K H v (W.data (.lt n s)) := x
  rw [W.data_lt] at x
  cases x with
  | tup hs ha =>
    cases ha with | cons a1 ha => cases ha with | cons a2 ha => cases ha with | cons a3 ha =>
    cases ha; cases a1; cases a2; cases a3
    exact ⟨_, rfl, hs⟩
theorem isW_nd {v : V} {k : Kd} {b c : W} (x : IsW K H v (.nd k b c)) : ∃ a v1 v2, v = .ref a ∧ SqT K H a [.str k.name, v1, v2] ∧ IsW K H v1 b ∧ IsW K H v2 c := by
  have x : Dp K H v (W.data (.nd k b c)) := x
  rw [W.data_nd] at x
  cases x with
  | tup hs ha =>
    cases ha with | cons a1 ha => cases ha with | cons a2 ha => cases ha with | cons a3 ha =>
    cases ha; cases a1
    exact ⟨_, _, _, rfl, hs, a2, a3⟩
theorem isW_mk_lt {a : Addr} {n : Str} {s : Int} (h : SqT K H a [.str "letter", .str n, .int s]) : IsW K H (.ref a) (.lt n s) := by
  show Dp K H _ (W.data (.lt n s))
  rw [W.data_lt]
  exact .tup h (.cons (.str _) (.cons (.str _) (.cons (.int _) .nil)))
theorem isW_mk_nd {a : Addr} {k : Kd} {v1 v2 : V} {b c : W} (h : SqT K H a [.str k.name, v1, v2]) (h1 : IsW K H v1 b) (h2 : IsW K H v2 c) : IsW K H (.ref a) (.nd k b c) := by
  show Dp K H _ (W.data (.nd k b c))
  rw [W.data_nd]
  exact .tup h (.cons (.str _) (.cons h1 (.cons h2 .nil)))
theorem isF_lt {v : V} {n : Str} {s : Int} (x : IsF K H v (.lt n s)) : ∃ a, v = .ref a ∧ SqT K H a [.str "letter", .str n, .int s] := by
  have x : Dp K H v (F.data (.lt n s)) := x
  rw [F.data_lt] at x
  cases x with
  | tup hs ha =>
    cases ha with | cons a1 ha => cases ha with | cons a2 ha => cases ha with | cons a3 ha =>
    cases ha; cases a1; cases a2; cases a3
    exact ⟨_, rfl, hs⟩
theorem isF_nd {v : V} {k : Kd} {fs : List F} (x : IsF K H v (.nd k fs)) : ∃ a c vs, v = .ref a ∧ SqT K H a [.str k.name, .ref c] ∧ SqT K H c vs ∧ AreF K H vs fs := by
  have x : Dp K H v (F.data (.nd k fs)) := x
  rw [F.data_nd] at x
  cases x with
  | tup hs ha =>
    cases ha with | cons a1 ha => cases ha with | cons a2 ha =>
    cases ha; cases a1
    cases a2 with
    | tup hs2 ha2 => exact ⟨_, _, _, rfl, hs, hs2, ha2⟩
theorem isF_mk_lt {a : Addr} {n : Str} {s : Int} (h : SqT K H a [.str "letter", .str n, .int s]) : IsF K H (.ref a) (.lt n s) := by
  show Dp K H _ (F.data (.lt n s))
  rw [F.data_lt]
  exact .tup h (.cons (.str _) (.cons (.str _) (.cons (.int _) .nil)))
theorem isF_mk_nd {a c : Addr} {k : Kd} {vs : List V} {fs : List F} (h : SqT K H a [.str k.name, .ref c]) (h1 : SqT K H c vs) (h2 : AreF K H vs fs) : IsF K H (.ref a) (.nd k fs) := by
  show Dp K H _ (F.data (.nd k fs))
  rw [F.data_nd]
  exact .tup h (.cons (.str _) (.cons (.tup h1 h2) .nil))
theorem isP_lt {v : V} {n : Str} {s : Int} {path : List Int} (x : IsP K H v (.lt n s path)) : ∃ a c, v = .ref a ∧ SqT K H a [.str "letter", .str n, .int s, .ref c] := by
  have x : Dp K H v (P.data (.lt n s path)) := x
  rw [P.data_lt] at x
  cases x with
  | tup hs ha =>
    cases ha with | cons a1 ha => cases ha with | cons a2 ha => cases ha with | cons a3 ha => cases ha with | cons a4 ha =>
    cases ha; cases a1; cases a2; cases a3
    cases a4 with
    | tup _ _ => exact ⟨_, _, rfl, hs⟩
theorem isP_nd {v : V} {k : Kd} {fs : List P} (x : IsP K H v (.nd k fs)) : ∃ a c vs, v = .ref a ∧ SqT K H a [.str k.name, .ref c] ∧ SqT K H c vs ∧ AreP K H vs fs := by
  have x : Dp K H v (P.data (.nd k fs)) := x
  rw [P.data_nd] at x
  cases x with
  | tup hs ha =>
    cases ha with | cons a1 ha => cases ha with | cons a2 ha =>
    cases ha; cases a1
    cases a2 with
    | tup hs2 ha2 => exact ⟨_, _, _, rfl, hs, hs2, ha2⟩
theorem isP_mk_nd {a c : Addr} {k : Kd} {vs : List V} {fs : List P} (h : SqT K H a [.str k.name, .ref c]) (h1 : SqT K H c vs) (h2 : AreP K H vs fs) : IsP K H (.ref a) (.nd k fs) := by
  show Dp K H _ (P.data (.nd k fs))
  rw [P.data_nd]
  exact .tup h (.cons (.str _) (.cons (.tup h1 h2) .nil))
theorem ints_dp : ∀ path : List Int, DpAll K H (path.map V.int) (path.map PyData.int)
  | [] => .nil
  | i :: path => .cons (.int i) (ints_dp path)
theorem isP_mk_lt {a c : Addr} {n : Str} {s : Int} {path : List Int} (h : SqT K H a [.str "letter", .str n, .int s, .ref c]) (hc : SqT K H c (path.map V.int)) : IsP K H (.ref a) (.lt n s path) := by
  show Dp K H _ (P.data (.lt n s path))
  rw [P.data_lt]
  exact .tup h (.cons (.str _) (.cons (.str _) (.cons (.int _) (.cons (.tup hc (ints_dp path)) .nil))))
theorem isP_ref {v : V} {p : P} (x : IsP K H v p) : ∃ a, v = .ref a := by
  cases p with
  | lt n s path => obtain ⟨a, _, e, _⟩ := isP_lt x; exact ⟨a, e⟩
  | nd k ps => obtain ⟨a, _, _, e, _⟩ := isP_nd x; exact ⟨a, e⟩
end
/-- the names that letters may bear here -/
def nm : List Str := ["a", "b", "key", "c", "ax", "bx", "keyx"]
theorem nm_ok : strOk7 nm := fun x hx => by
  have h : ∀ x ∈ nm, PyData.strOk x = true := by decide +kernel
  exact h x hx
theorem shapedW {w : W} (h : w.ok nm) (d : w.depth ≤ 60) : SeqAt.shaped (W.data w) = true := by
  show ((W.data w).canLay0 && decide ((W.data w).depth ≤ 64)) = true
  rw [W.data_lay nm_ok w h, Bool.true_and]
  have := W.data_depth w
  exact decide_eq_true (by omega)
theorem shapedF {f : F} (h : F.ok nm f) (d : F.depth f ≤ 32) : SeqAt.shaped (F.data f) = true := by
  show ((F.data f).canLay0 && decide ((F.data f).depth ≤ 64)) = true
  rw [F.data_lay nm_ok f h, Bool.true_and]
  have := F.data_depth f
  exact decide_eq_true (by omega)
end K78
set_option Elab.async false
set_option linter.all false
set_option maxRecDepth 100000
/-! K78, part 8: the walks of everyslice.word.words. -/
namespace K78
open PySem PySem.Spec PyProof.Rows L2 LamX

section
variable {pr : Program} {w : World} {K : PySem.W.Frag} {mg : Str → Option Value} {base : Heap} {P0 : Addr}
/-! ### is_whole -/
abbrev sWhole : Stmt := topS 16
theorem scWhole : FnScope ["value"] ["value"] (defScope sWhole) := ⟨rfl, rfl, rfl, by decide +kernel, rfl, by decide +kernel, by decide +kernel⟩
def spWhole : Sp := fun vs H Q _ => ∃ i : Int, vs = [.int i] ∧ Q (.bl true) H
theorem ok_whole (T : Txt K mg w) (d : Def K mg "is_whole" sWhole ["value"]) : FnOk pr w K mg base CX0 1 d.f d.fd ["value"] spWhole := by
  refine d.fn.ok scWhole (fun vs H Q E h => ?_) (fun cdv A outer s H vs Q E hr h => ?_)
  · obtain ⟨i, rfl, _⟩ := h
    rfl
  obtain ⟨i, rfl, q⟩ := h
  refine ⟨_, pss_one (ps_ret (pe_and (pe_callB call_isi rfl T.isinstance (by decide +kernel) (pa_cons (pv 0) (pa_cons (pe_bltn (v := .ty "int") rfl T.int (by decide +kernel) rfl) pa_nil)))
    (pe_one (pe_not (pe_callB call_isi rfl T.isinstance (by decide +kernel) (pa_cons (pv 0) (pa_cons (pe_bltn (v := .ty "bool") rfl T.bool (by decide +kernel) rfl) pa_nil))))))), ?_⟩
  refine ⟨_, rfl, _, _, _, _, true, rfl, .ty _, .base (.int i), kit_ty (by decide +kernel), true, rfl, ?_⟩
  exact iteT ⟨_, rfl, _, _, _, _, false, rfl, .ty _, .base (.int i), kit_ty (by decide +kernel), false, rfl, q⟩

/-! ### is_name -/
abbrev sName : Stmt := topS 17
theorem scName : FnScope ["value", "sign"] ["value"] (defScope sName) := ⟨rfl, rfl, rfl, by decide +kernel, rfl, by decide +kernel, by decide +kernel⟩
def spName (P0 : Addr) : Sp := fun vs H Q _ => ∃ n : Str, vs = [.str n] ∧ n ∈ nm ∧ ∀ H', Gx P0 [] H H' → Q (.bl true) H'
theorem nm_len {n : Str} (h : n ∈ nm) : 1 ≤ n.length ∧ n.length ≤ 8 := by
  have z : ∀ n ∈ nm, 1 ≤ n.length ∧ n.length ≤ 8 := by decide +kernel
  exact z n h
theorem nm_sign {n : Str} (h : n ∈ nm) {c : Nat} (hc : c ∈ n.cps.toList) : (!(Builtin.Str.occurrences ("abcdefghijklmnopqrstuvwxyz" : Str) ⟨#[c]⟩ 0 ("abcdefghijklmnopqrstuvwxyz" : Str).length 1).isEmpty) = true := by
  have z : ∀ n ∈ nm, ∀ c ∈ n.cps.toList, (!(Builtin.Str.occurrences ("abcdefghijklmnopqrstuvwxyz" : Str) ⟨#[c]⟩ 0 ("abcdefghijklmnopqrstuvwxyz" : Str).length 1).isEmpty) = true := by decide +kernel
  exact z n h c hc
theorem ok_name (T : Txt K mg w) (d : Def K mg "is_name" sName ["value"]) : FnOk pr w K mg base CX0 1 d.f d.fd ["value"] (spName P0) := by
  refine d.fn.ok scName (fun vs H Q E h => ?_) (fun cdv A outer s H vs Q E hr h => ?_)
  · obtain ⟨i, rfl, _⟩ := h
    rfl
  obtain ⟨n, rfl, hn, q⟩ := h
  refine ⟨_, pss_one (ps_ret (pe_and (pe_callB call_isi rfl T.isinstance (by decide +kernel) (pa_cons (pv 0) (pa_cons (pe_bltn (v := .ty "str") rfl T.str (by decide +kernel) rfl) pa_nil)))
    (pe_and (pe_chain op_le op_le pe_int (pe_callB call_len_str rfl T.len PySem.boot_len (pa_cons (pv 0) pa_nil)) (pe_gi T.MOST_NAME))
    (pe_one (pe_callB (cr_all rfl) rfl T.all (by decide +kernel) (pa_cons
      (pe_lc (own := [("sign", 1)]) (g := gName 1) (tt := tYes) rfl scName.nd (pi_str (pv 0)) (blkOk_by (N := ["value", "sign"]) (sc := defScope sName) (by decide +kernel))
        (fun _ _ _ _ _ => pg_name (i := 1) scName.nd rfl (Or.inl rfl)) (fun _ _ _ _ _ => pts_nil) (fun _ _ _ _ _ => pe_cmpR op_in_str (pv 1) (pe_gs T.SIGNS) rfl)) pa_nil)))))), ?_⟩
  obtain ⟨l1, l8⟩ := nm_len hn
  refine ⟨_, rfl, _, _, _, _, true, rfl, .ty _, .base (.str n), kit_ty (by decide +kernel), true, rfl, iteT ?_⟩
  refine ⟨.str n, rfl, n, rfl, by rw [sizeLine_eq]; omega, 1, _, rfl, rfl, true, ?_, ?_⟩
  · exact congrArg V.bl (decide_eq_true (by omega))
  refine ⟨_, _, rfl, rfl, true, ?_, iteT ?_⟩
  · exact congrArg V.bl (decide_eq_true (by omega))
  refine ⟨_, rfl, n, rfl, fun D hD => ?_⟩
  refine ⟨fun i m H1 => m = n.cps.size - i ∧ i ≤ n.cps.size ∧ Gx P0 [] H H1 ∧ H1 D = some (.lst ((List.replicate i true).map V.bl)), ⟨_, rfl, Nat.zero_le _, Gx.new hD, upd_same⟩, ?_⟩
  rintro i m H1 ⟨rfl, hi, g, hl⟩
  by_cases hlt : i < n.cps.size
  · refine .inr ⟨hlt, fun H' => Gx P0 [] H H' ∧ H' D = some (.lst ((List.replicate (i + 1) true).map V.bl)), fun H' p => ⟨_, by omega, rfl, hlt, p.1, p.2⟩, ?_⟩
    rintro x H' ⟨rfl, c, hc, rfl⟩
    have hm : c ∈ n.cps.toList := by
      rw [← Array.getElem?_toList] at hc
      exact List.mem_of_getElem? hc
    refine ⟨rfl, _, rfl, _, _, rfl, rfl, (List.replicate i true).map V.bl, hl, ?_, ?_, ?_⟩
    · rw [List.length_map, List.length_replicate, sizeLine_eq]
      have : n.cps.size = n.length := rfl
      omega
    · exact g.own hD hl
    · rw [upd_same, nm_sign hn hm, List.replicate_succ', List.map_append]
      rfl
  · refine .inl ⟨Nat.le_of_not_lt hlt, D, List.replicate i true, rfl, SqL.of hl, ?_⟩
    have e : (List.replicate i true).all id = true := by simp
    rw [e]
    exact q H1 g
end
end K78
set_option Elab.async false
set_option linter.all false
set_option maxRecDepth 100000
/-! K78, part 9: is_node, is_word_in, require_word, require_two_words. -/
namespace K78
open PySem PySem.Spec PyProof.Rows L2 LamX

theorem tyx_tup {K : PySem.W.Frag} {H : Hp} {a : Addr} {xs : List V} (h : SqT K H a xs) : TyX K H (.ref a) (.type "tuple") := by
  rcases h with (h | ⟨o, h⟩) | ⟨o, its, n, hk, hc, _⟩
  · exact .base (.tup h)
  · exact .fTuple h
  · exact .kTuple hk hc
section
variable {pr : Program} {w : World} {K : PySem.W.Frag} {mg : Str → Option Value} {base : Heap} {P0 : Addr}
/-! ### is_node -/
abbrev sNode : Stmt := topS 18
theorem scNode : FnScope ["value"] ["value"] (defScope sNode) := ⟨rfl, rfl, rfl, by decide +kernel, rfl, by decide +kernel, by decide +kernel⟩
def spNode (K : PySem.W.Frag) (P0 : Addr) : Sp := fun vs H Q _ => ∃ (wd : W) (v : V), vs = [v] ∧ IsW K H v wd ∧ wd.ok nm ∧ ∀ H', Gx P0 [] H H' → Q (.bl true) H'
theorem in_kinds_l : (!inV (.str "letter") [.str "letter", .str "both", .str "either", .str "mine", .str "theirs"]) = false := by decide +kernel
theorem in_kinds (k : Kd) : (!inV (.str k.name) [.str "letter", .str "both", .str "either", .str "mine", .str "theirs"]) = false := by cases k <;> decide +kernel
theorem dec_kd (k : Kd) : decide (V.str k.name = V.str "letter") = false := decide_eq_false fun z => k.name_ne (by injection z)
theorem ok_node (T : Txt K mg w) (d : Def K mg "is_node" sNode ["value"]) (dn : Def K mg "is_name" sName ["value"]) (dw : Def K mg "is_whole" sWhole ["value"])
    (Gn : FnOk pr w K mg base CX0 1 dn.f dn.fd ["value"] (spName P0)) (Gw : FnOk pr w K mg base CX0 1 dw.f dw.fd ["value"] spWhole) : FnOk pr w K mg base CX0 2 d.f d.fd ["value"] (spNode K P0) := by
  refine d.fn.ok scNode (fun vs H Q E h => ?_) (fun cdv A outer s H vs Q E hr h => ?_)
  · obtain ⟨wd, v, rfl, _⟩ := h
    rfl
  obtain ⟨wd, v, rfl, hw, hok, q⟩ := h
  refine ⟨_, pss_cons (ps_if (PW.pt (pw_or (pt_not (pt_val (pe_callB call_isi rfl T.isinstance (by decide +kernel) (pa_cons (pv 0) (pa_cons (pe_bltn (v := .ty "tuple") rfl T.tuple (by decide +kernel) rfl) pa_nil)))))
      (pw_or (pt_cmpR op_ne (pe_callB call_len_seq rfl T.len PySem.boot_len (pa_cons (pv 0) pa_nil)) (pe_gi T.TRIPLE_words) (nomark _))
      (pw_or (pt_not (pt_val (pe_callB call_isi rfl T.isinstance (by decide +kernel) (pa_cons (pe_ix ix_tup (pv 0) pe_int (fun _ _ => rfl)) (pa_cons (pe_bltn (v := .ty "str") rfl T.str (by decide +kernel) rfl) pa_nil)))))
      (pw_or1 (pt_cmpR op_notIn_seq (pe_ix ix_tup (pv 0) pe_int (fun _ _ => rfl)) (pe_gr T.KINDS) rfl)))))) (pss_one (ps_ret pe_bl)) pss_nil)
    (pss_cons (ps_if (pt_cmpR op_ne (pe_ix ix_tup (pv 0) pe_int (fun _ _ => rfl)) (pe_gs T.LETTER) (nomark _)) (pss_one (ps_ret pe_bl)) pss_nil)
    (pss_one (ps_ret (pe_and (pe_def dn Gn hr (pa_cons (pe_ix ix_tup (pv 0) pe_int (fun _ _ => rfl)) pa_nil)) (pe_and (pe_def dw Gw hr (pa_cons (pe_ix ix_tup (pv 0) pe_int (fun _ _ => rfl)) pa_nil))
      (pe_one (pe_cmpR op_in_seq (pe_ix ix_tup (pv 0) pe_int (fun _ _ => rfl)) (pe_tup (pa_cons pe_int (pa_cons (pe_un un_neg pe_int) pa_nil))) rfl))))))), ?_⟩
  cases wd with
  | nd k b c =>
    obtain ⟨a, v1, v2, rfl, hs, h1, h2⟩ := isW_nd hw
    refine ⟨_, rfl, _, _, _, _, true, rfl, .ty _, tyx_tup hs, kit_ty (by decide +kernel), true, rfl, ?_⟩
    refine ⟨_, rfl, a, _, rfl, .inr hs, rfl, false, rfl, ?_⟩
    refine ⟨_, rfl, a, _, 0, _, rfl, rfl, hs, atI_nat (j := 0) rfl, _, _, _, _, true, rfl, .ty _, .base (.str k.name), kit_ty (by decide +kernel), true, rfl, ?_⟩
    refine ⟨_, rfl, a, _, 0, _, rfl, rfl, hs, atI_nat (j := 0) rfl, _, _, rfl, .inr (T.kinds H), rfl, rfl, false, congrArg V.bl (in_kinds k), ?_⟩
    refine ⟨_, rfl, a, _, 0, _, rfl, rfl, hs, atI_nat (j := 0) rfl, rfl, true, ?_, ?_⟩
    · rw [dec_kd]
      rfl
    · exact q H (Gx.refl _ _ _)
  | lt n i =>
    obtain ⟨a, rfl, hs⟩ := isW_lt hw
    refine ⟨_, rfl, _, _, _, _, true, rfl, .ty _, tyx_tup hs, kit_ty (by decide +kernel), true, rfl, ?_⟩
    refine ⟨_, rfl, a, _, rfl, .inr hs, rfl, false, rfl, ?_⟩
    refine ⟨_, rfl, a, _, 0, _, rfl, rfl, hs, atI_nat (j := 0) rfl, _, _, _, _, true, rfl, .ty _, .base (.str "letter"), kit_ty (by decide +kernel), true, rfl, ?_⟩
    refine ⟨_, rfl, a, _, 0, _, rfl, rfl, hs, atI_nat (j := 0) rfl, _, _, rfl, .inr (T.kinds H), rfl, rfl, false, congrArg V.bl in_kinds_l, ?_⟩
    refine ⟨_, rfl, a, _, 0, _, rfl, rfl, hs, atI_nat (j := 0) rfl, rfl, false, rfl, ?_⟩
    refine ⟨_, rfl, a, _, 1, _, rfl, rfl, hs, atI_nat (j := 1) rfl, n, rfl, hok.1, fun H1 g1 => ⟨true, rfl, ?_⟩⟩
    have hs1 := g1.tu.seq hs
    refine ⟨_, rfl, a, _, 2, _, rfl, rfl, hs1, atI_nat (j := 2) rfl, i, rfl, true, rfl, ?_⟩
    refine ⟨_, rfl, a, _, 2, _, rfl, rfl, hs1, atI_nat (j := 2) rfl, 1, rfl, (by show 2 ≤ sizeLine; decide), fun t ht => ?_⟩
    refine ⟨t, _, rfl, .inr (SqT.of upd_same), rfl, rfl, ?_⟩
    have e : inV (.int i) [.int 1, .int (-1)] = true := by
      rcases hok.2 with e | e <;> subst e <;> decide
    rw [if_neg Bool.false_ne_true, e]
    exact q _ (g1.trans (Gx.new ht))
end
end K78
set_option Elab.async false
set_option linter.all false
set_option maxRecDepth 100000
/-! K78, part 10: is_word_in, require_word, require_two_words, way_count_in, copy_count. -/
namespace K78
open PySem PySem.Spec PyProof.Rows L2 LamX

/-! ### the pile of is_word_in -/
abbrev item (it : W × Nat) : PyData := .tuple [W.data it.1, .int it.2]
def items (l : List (W × Nat)) : List PyData := l.map item
def pl (l : List (W × Nat)) : Nat := (l.map fun it => it.1.letters).sum
def pn (l : List (W × Nat)) : Nat := (l.map fun it => it.1.nodes).sum
theorem pl_app (l m : List (W × Nat)) : pl (l ++ m) = pl l + pl m := by unfold pl; rw [List.map_append, List.sum_append]
theorem pn_app (l m : List (W × Nat)) : pn (l ++ m) = pn l + pn m := by unfold pn; rw [List.map_append, List.sum_append]
theorem pl_one (it : W × Nat) : pl [it] = it.1.letters := by unfold pl; simp
theorem pn_one (it : W × Nat) : pn [it] = it.1.nodes := by unfold pn; simp
theorem dpAll_snoc {K : PySem.W.Frag} {H : Hp} {d : PyData} : ∀ {ds : List PyData} {xs : List V}, DpAll K H xs (ds ++ [d]) → ∃ ys y, xs = ys ++ [y] ∧ DpAll K H ys ds ∧ Dp K H y d
  | [], _, h => by
    cases h with
    | cons a b =>
      cases b
      exact ⟨[], _, rfl, .nil, a⟩
  | e :: ds, _, h => by
    have h : DpAll K H _ (e :: (ds ++ [d])) := h
    cases h with
    | cons a b =>
      obtain ⟨ys, y, rfl, h1, h2⟩ := dpAll_snoc b
      exact ⟨_ :: ys, y, rfl, .cons a h1, h2⟩
theorem dpAll_app {K : PySem.W.Frag} {H : Hp} : ∀ {ds es : List PyData} {xs ys : List V}, DpAll K H xs ds → DpAll K H ys es → DpAll K H (xs ++ ys) (ds ++ es)
  | _, _, _, _, .nil, h => h
  | _, _, _, _, .cons a b, h => .cons a (dpAll_app b h)
theorem dpAll_len {K : PySem.W.Frag} {H : Hp} : ∀ {ds : List PyData} {xs : List V}, DpAll K H xs ds → xs.length = ds.length
  | _, _, .nil => rfl
  | _, _, .cons _ b => by rw [List.length_cons, List.length_cons, dpAll_len b]
theorem items_tup : ∀ l : List (W × Nat), tupOnlys (items l) = true
  | [] => by show tupOnlys [] = true; simp only [tupOnlys]
  | it :: l => by
    show tupOnlys (item it :: items l) = true
    simp only [tupOnlys, tupOnly, W.tup it.1, items_tup l, Bool.and_self]
theorem items_app (l m : List (W × Nat)) : items (l ++ m) = items l ++ items m := List.map_append ..
theorem items_shaped : ∀ l : List (W × Nat), (∀ it ∈ l, it.1.ok nm ∧ it.1.depth ≤ 60) → PyData.canLayAll0 (items l) = true ∧ PyData.depthAll (items l) ≤ 61
  | [], _ => by
    show PyData.canLayAll0 [] = true ∧ PyData.depthAll [] ≤ 61
    simp [PyData.canLayAll0, PyData.depthAll]
  | it :: l, h => by
    obtain ⟨h1, h2⟩ := items_shaped l fun x hx => h x (List.mem_cons_of_mem _ hx)
    obtain ⟨o, dp⟩ := h it List.mem_cons_self
    show PyData.canLayAll0 (item it :: items l) = true ∧ PyData.depthAll (item it :: items l) ≤ 61
    have q := W.data_depth it.1
    simp only [PyData.canLayAll0, PyData.canLay0, W.data_lay nm_ok it.1 o, h1, PyData.depthAll, PyData.depth, Bool.and_self, true_and]
    omega
theorem items_eqv (l : List (W × Nat)) : PyData.eqv (.list (items l)) (.list []) = decide (l = []) := by
  have e : PyData.eqv (.list (items l)) (.list []) = PyData.eqvAll (items l) [] := by simp only [PyData.eqv]
  rw [e]
  cases l with
  | nil => exact F.eqv_nil
  | cons it l => exact (F.eqv_nil2 _ _).trans (decide_eq_false (fun z => nomatch z)).symm
/-- what holds of the pile: letters so far, all words well made and not too deep -/
structure Pile (l : List (W × Nat)) (n : Nat) : Prop where
  ok : ∀ it ∈ l, it.1.ok nm ∧ it.2 + it.1.depth ≤ 9
  few : n + pl l ≤ 24
theorem snoc_cases {α : Type} (l : List α) : l = [] ∨ ∃ m x, l = m ++ [x] := by
  cases h : l.reverse with
  | nil => exact .inl (by simpa using h)
  | cons x m => exact .inr ⟨m.reverse, x, by rw [← List.reverse_reverse l, h, List.reverse_cons]⟩
theorem pl_len : ∀ l : List (W × Nat), l.length ≤ pl l
  | [] => Nat.zero_le _
  | it :: l => by
    have h := pl_len l
    have e : pl (it :: l) = it.1.letters + pl l := by unfold pl; rw [List.map_cons, List.sum_cons]
    have q := it.1.letters_pos
    rw [e, List.length_cons]
    omega
section
variable {pr : Program} {w : World} {K : PySem.W.Frag} {mg : Str → Option Value} {base : Heap} {P0 : Addr}
theorem room_eqD {A : Around} {k : Nat} (hr : Room k A) : A.units + 64 < cLine := hr.units

/-! ### is_word_in -/
abbrev sWordIn : Stmt := topS 19
abbrev nWordIn : List Str := ["value", "waiting", "letters", "here", "deep", "side"]
theorem scWordIn : FnScope nWordIn ["value"] (defScope sWordIn) := ⟨rfl, rfl, rfl, by decide +kernel, rfl, by decide +kernel, by decide +kernel⟩
def spWordIn (K : PySem.W.Frag) (P0 : Addr) : Sp := fun vs H Q _ => ∃ (wd : W) (v : V), vs = [v] ∧ IsW K H v wd ∧ wd.ok nm ∧ wd.letters ≤ 24 ∧ wd.depth ≤ 8 ∧ ∀ H', Gx P0 [] H H' → Q (.bl true) H'
theorem ok_wordIn (T : Txt K mg w) (d : Def K mg "is_word_in" sWordIn ["value"]) (dn : Def K mg "is_node" sNode ["value"])
    (Gn : FnOk pr w K mg base CX0 2 dn.f dn.fd ["value"] (spNode K P0)) : FnOk pr w K mg base CX0 3 d.f d.fd ["value"] (spWordIn K P0) := by
  refine d.fn.ok scWordIn (fun vs H Q E h => ?_) (fun cdv A outer s H vs Q E hr h => ?_)
  · obtain ⟨wd, v, rfl, _⟩ := h
    rfl
  obtain ⟨wd, v, rfl, hw, hok, hl, hd, q⟩ := h
  refine ⟨_, pss_cons (ps_par (i := 1) (j := 2) rfl scWordIn.nd rfl rfl (by decide) rfl rfl (pa_cons (pe_lst (pa_cons (pe_tup (pa_cons (pv 0) (pa_cons pe_int pa_nil))) pa_nil)) (pa_cons pe_int pa_nil)) (by rfl))
    (pss_cons (ps_while PassesOwn.never (pt_cmpR (op_neD hr.units) (pv 1) (pe_lst pa_nil) (nomark _))
      (pss_cons (ps_asg (pe_bm0 PySem.F.plainAttrs_list PySem.F.slot_list_pop PySem.F.type_list_pop mt_pop (pv 1)) (pg_tup rfl (pgs_cons (pg_name (i := 3) scWordIn.nd rfl (Or.inl rfl)) (pgs_cons (pg_name (i := 4) scWordIn.nd rfl (Or.inr rfl)) pgs_nil))))
      (pss_cons (ps_if (PW.pt (pw_or (pt_cmpR op_gt (pv 4) (pe_gi T.MAX_DEEP) (nomark _)) (pw_or1 (pt_not (pt_val (pe_def dn Gn hr (pa_cons (pv 3) pa_nil))))))) (pss_one (ps_ret pe_bl)) pss_nil)
      (pss_cons (ps_if (pt_cmpR op_eq (pe_ix ix_tup (pv 3) pe_int (fun _ _ => rfl)) (pe_gs T.LETTER) (nomark _))
        (pss_one (ps_aug (i := 2) scWordIn.nd rfl (Or.inl rfl) pe_int ip_add))
        (pss_one (ps_expr (pe_bm PySem.F.plainAttrs_list PySem.F.slot_list_extend PySem.F.type_list_extend mt_extend (pv 1) (pa_cons
          (pe_lc (own := [("side", 5)]) (g := gName 5) (tt := tYes) rfl scWordIn.nd (pi_tup (pe_slice sl_tup (pv 3) (po_some pe_int) po_none)) (blkOk_by (N := nWordIn) (sc := defScope sWordIn) (by decide +kernel))
            (fun _ _ _ _ _ => pg_name (i := 5) scWordIn.nd rfl (Or.inl rfl)) (fun _ _ _ _ _ => pts_nil) (fun _ _ _ _ _ => pe_tup (pa_cons (pv 5) (pa_cons (pe_op op_add (pv 4) pe_int) pa_nil)))) pa_nil)))))
      (pss_one (ps_if (pt_cmpR op_gt (pv 2) (pe_gi T.MOST_LETTERS) (nomark _)) (pss_one (ps_ret pe_bl)) pss_nil))))))
    (pss_one (ps_ret pe_bl))), ?_⟩
  refine ⟨_, rfl, (by show 2 ≤ sizeLine; decide), fun t ht => ⟨(by show 1 ≤ sizeLine; decide), fun l hlst => ⟨_, _, rfl, ?_⟩⟩⟩
  have g0 : Gx P0 [] H (upd (upd H t (.tup [v, .int 1])) l (.lst [.ref t])) := (Gx.new ht).trans (Gx.new hlst)
  have hlH : H l = none := by
    by_cases e : l = t
    · rw [e, upd_same] at hlst
      cases hlst
    · rwa [upd_ne e] at hlst
  refine ⟨fun m σ H1 => ∃ (its : List (W × Nat)) (xs : List V) (n : Nat) (x3 x4 x5 : Option V), σ = [some v, some (.ref l), some (.int n), x3, x4, x5] ∧ m = pn its ∧ Pile its n ∧ Gx P0 [] H H1 ∧ H1 l = some (.lst xs) ∧ DpAll K H1 xs (items its),
    ⟨_, [(wd, 1)], [.ref t], 0, none, none, none, rfl, rfl, ⟨fun it hi => ?_, ?_⟩, g0, upd_same, ?_⟩, ?_⟩
  · rw [List.mem_singleton] at hi
    subst hi
    exact ⟨hok, by show 1 + wd.depth ≤ 9; omega⟩
  · rw [pl_one]
    show 0 + wd.letters ≤ 24
    omega
  · refine .cons (.tup (xs := [v, .int 1]) (SqT.of ?_) (.cons ?_ (.cons (.int 1) .nil))) .nil
    · rw [upd_ne (ne_of_none upd_same hlst), upd_same]
    · exact g0.tu.isW hw
  rintro m σ H1 ⟨its, xs, n, x3, x4, x5, rfl, rfl, hp, g, hx, hA⟩
  refine ⟨_, rfl, Nat.zero_le _, fun e he => ?_⟩
  have hsh := items_shaped its fun it hi => ⟨(hp.ok it hi).1, by have := (hp.ok it hi).2; omega⟩
  refine ⟨.list (items its), .list [], .lst (SqL.of ?_) ((Tu.new he).dps _ _ (items_tup its) hA), .lst (SqL.of upd_same) .nil, ?_, rfl, !decide (its = []), ?_, ?_⟩
  · rw [upd_ne (ne_of_none hx he)]
    exact hx
  · show (PyData.canLay0 (.list (items its)) && decide (PyData.depth (.list (items its)) ≤ 64)) = true
    simp only [PyData.canLay0, PyData.depth, hsh.1, Bool.true_and]
    exact decide_eq_true (by omega)
  · rw [items_eqv]
  rcases snoc_cases its with rfl | ⟨its, it, rfl⟩
  · exact q _ (g.trans (Gx.new he))
  have ne : (!decide (its ++ [it] = [])) = true := by simp
  rw [if_pos ne]
  have g := g.trans (Gx.new (o := .lst []) he)
  have hx : upd H1 e (.lst []) l = some (.lst xs) := by rw [upd_ne (ne_of_none hx he)]; exact hx
  have hA := (Tu.new (o := .lst []) he).dps _ _ (items_tup _) hA
  generalize upd H1 e (.lst []) = H2 at g hx hA
  rw [items_app] at hA
  obtain ⟨ys, y, rfl, hA', hy⟩ := dpAll_snoc hA
  clear hA
  obtain ⟨hitok, hitd⟩ := hp.ok it (List.mem_append_right _ (List.mem_singleton.mpr rfl))
  have hfew := hp.few
  rw [pl_app, pl_one] at hfew
  have hp' : ∀ x ∈ its, x.1.ok nm ∧ x.2 + x.1.depth ≤ 9 := fun x hx => hp.ok x (List.mem_append_left _ hx)
  have hy : Dp K H2 y (.tuple [W.data it.1, .int it.2]) := hy
  cases hy with
  | @tup p zs _ hs ha =>
  cases ha with | @cons hv _ _ _ a1 ha => cases ha with | cons a2 ha =>
  cases ha; cases a2
  refine ⟨fun σ' H' => ∃ m', m' < pn (its ++ [it]) ∧ ∃ (its : List (W × Nat)) (xs : List V) (n : Nat) (x3 x4 x5 : Option V), σ' = [some v, some (.ref l), some (.int n), x3, x4, x5] ∧ m' = pn its ∧ Pile its n ∧ Gx P0 [] H H' ∧ H' l = some (.lst xs) ∧ DpAll K H' xs (items its), fun _ _ h => h, ?_⟩
  -- here, deep = waiting.pop()
  refine ⟨_, rfl, .inl ⟨rfl, _, SqL.of hx⟩, l, _, .ref p, rfl, rfl, hx, by simp, ?_⟩
  rw [List.dropLast_concat]
  have tu2 : Tu H2 (upd H2 l (.lst ys)) := Tu.lst hx
  have g3 : Gx P0 [] H (upd H2 l (.lst ys)) := g.own hlH hx
  have hA3 := tu2.dps _ _ (items_tup its) hA'
  have a3 := tu2.isW a1
  have hs3 := tu2.seq hs
  have hx3 : upd H2 l (.lst ys) l = some (.lst ys) := upd_same
  generalize upd H2 l (.lst ys) = H3 at g3 hA3 a3 hs3 hx3
  refine ⟨p, _, rfl, hs3, rfl, _, _, rfl, _, _, rfl, rfl, ?_⟩
  -- if deep > MAX_DEEP or not is_node(here)
  refine ⟨_, rfl, _, _, rfl, rfl, false, ?_, ?_⟩
  · refine congrArg V.bl (decide_eq_false ?_)
    have := it.1.depth_pos
    show ¬ (8 : Int) < (it.2 : Int)
    omega
  refine ⟨_, rfl, it.1, hv, rfl, a3, hitok, fun H4 g4 => ⟨true, rfl, ?_⟩⟩
  have g5 := g3.trans g4
  have hA5 := g4.tu.dps _ _ (items_tup its) hA3
  have a5 := g4.tu.isW a3
  have hx5 := g4.lstA (by simp) hx3
  clear g4 g3 hA3 a3 hx3 hs3 tu2 hs a1 hx hA'
  -- if here[0] == LETTER
  obtain ⟨wi, dp⟩ := it
  cases wi with
  | lt nme i =>
    obtain ⟨a, rfl, hsw⟩ := isW_lt a5
    refine ⟨_, rfl, a, _, 0, _, rfl, rfl, hsw, atI_nat (j := 0) rfl, rfl, true, rfl, ?_⟩
    refine ⟨_, rfl, n, 1, rfl, rfl, ?_⟩
    have hfew : n + (pl its + 1) ≤ 24 := hfew
    refine ⟨_, rfl, _, _, rfl, rfl, false, ?_, ?_⟩
    · refine congrArg V.bl (decide_eq_false ?_)
      show ¬ (24 : Int) < (n : Int) + 1
      omega
    refine ⟨pn its, ?_, its, ys, n + 1, _, _, _, rfl, rfl, ⟨hp', by omega⟩, g5, hx5, hA5⟩
    rw [pn_app, pn_one]
    show pn its < pn its + 1
    omega
  | nd k b c =>
    obtain ⟨a, v1, v2, rfl, hsw, h1, h2⟩ := isW_nd a5
    refine ⟨_, rfl, a, _, 0, _, rfl, rfl, hsw, atI_nat (j := 0) rfl, rfl, false, ?_, ?_⟩
    · rw [dec_kd]
    -- waiting.extend([(side, deep + 1) for side in here[1:]])
    refine ⟨_, rfl, .inl ⟨rfl, _, SqL.of hx5⟩, ?_⟩
    refine ⟨_, rfl, 1, rfl, a, _, rfl, hsw, ?_, fun t2 ht2 => ?_⟩
    · rintro ⟨z, _⟩
      have z : HT.sIx 3 0 (some ((1 : Nat) : Int)) = 0 := z
      rw [HT.sIx_nat] at z
      revert z
      decide
    have ecut : cutV [V.str k.name, v1, v2] (some 1) none = [v1, v2] := rfl
    rw [ecut]
    have g6 := g5.trans (Gx.new (o := .tup [v1, v2]) ht2)
    have hA6 := (Tu.new (o := .tup [v1, v2]) ht2).dps _ _ (items_tup its) hA5
    have h1' := (Tu.new (o := .tup [v1, v2]) ht2).isW h1
    have h2' := (Tu.new (o := .tup [v1, v2]) ht2).isW h2
    have hx6 : upd H4 t2 (.tup [v1, v2]) l = some (.lst ys) := by rw [upd_ne (ne_of_none hx5 ht2)]; exact hx5
    have hT6 : upd H4 t2 (.tup [v1, v2]) t2 = some (.tup [v1, v2]) := upd_same
    generalize upd H4 t2 (.tup [v1, v2]) = H6 at g6 hA6 h1' h2' hx6 hT6
    refine ⟨t2, rfl, ⟨_, SqT.of hT6⟩, fun D hD => ?_⟩
    have hlD : l ≠ D := ne_of_none hx6 hD
    refine lc_tup (K := K) (a := t2) (xs := [v1, v2]) (fun i H7 => Gx P0 [] H H7 ∧ Tu H6 H7 ∧ H7 l = some (.lst ys) ∧ ∃ acc, H7 D = some (.lst acc) ∧ DpAll K H7 acc (items (([(b, dp + 1), (c, dp + 1)] : List (W × Nat)).take i)))
      ⟨g6.trans (Gx.new hD), Tu.new hD, by rw [upd_ne hlD]; exact hx6, [], upd_same, .nil⟩ (fun i H7 _ h7 => SqT.of (h7.2.1.tups _ _ hT6)) (fun i x H7 hi h7 => ?_) (fun H7 h7 => ?_)
    · obtain ⟨g7, t7, l7, acc, hD7, hacc⟩ := h7
      refine ⟨rfl, _, rfl, _, rfl, dp, 1, rfl, rfl, (by show 2 ≤ sizeLine; decide), fun t3 ht3 => ?_⟩
      have hD8 : upd H7 t3 (.tup [x, .int ((dp : Int) + 1)]) D = some (.lst acc) := by rw [upd_ne (ne_of_none hD7 ht3)]; exact hD7
      have step : ∀ (q : W), IsW K H6 x q → x = x → DpAll K (upd (upd H7 t3 (.tup [x, .int ((dp : Int) + 1)])) D (.lst (acc ++ [.ref t3]))) [.ref t3] (items [(q, dp + 1)]) := fun q hq _ => by
        have tt : Tu H6 (upd (upd H7 t3 (.tup [x, .int ((dp : Int) + 1)])) D (.lst (acc ++ [.ref t3]))) := (t7.trans (Tu.new ht3)).trans (Tu.lst hD8)
        refine .cons (.tup (xs := [x, .int ((dp : Int) + 1)]) (SqT.of ?_) (.cons (tt.isW hq) (.cons (.int _) .nil))) .nil
        rw [upd_ne (ne_of_none hD7 ht3).symm, upd_same]
      have old : DpAll K (upd (upd H7 t3 (.tup [x, .int ((dp : Int) + 1)])) D (.lst (acc ++ [.ref t3]))) acc (items (([(b, dp + 1), (c, dp + 1)] : List (W × Nat)).take i)) := ((Tu.new ht3).trans (Tu.lst hD8)).dps _ _ (items_tup _) hacc
      have hlen : acc.length < sizeLine := by
        have e := dpAll_len hacc
        have e2 : (items (([(b, dp + 1), (c, dp + 1)] : List (W × Nat)).take i)).length ≤ 2 := by
          unfold items
          rw [List.length_map, List.length_take]
          exact Nat.min_le_right _ _
        rw [sizeLine_eq]
        omega
      refine ⟨acc, hD8, hlen, (g7.trans (Gx.new ht3)).own (g6.old _ hD) hD8, (t7.trans (Tu.new ht3)).trans (Tu.lst hD8), ?_, acc ++ [.ref t3], upd_same, ?_⟩
      · rw [upd_ne hlD, upd_ne (ne_of_none l7 ht3)]
        exact l7
      · match i, hi with
        | 0, hi =>
          have e : v1 = x := Option.some.inj hi
          subst e
          exact dpAll_app old (step b h1' rfl)
        | 1, hi =>
          have e : v2 = x := Option.some.inj hi
          subst e
          exact dpAll_app old (step c h2' rfl)
        | i + 2, hi => simp at hi
    · obtain ⟨g7, t7, l7, acc, hD7, hacc⟩ := h7
      have hacc : DpAll K H7 acc (items [(b, dp + 1), (c, dp + 1)]) := hacc
      have hfew : n + (pl its + (b.letters + c.letters)) ≤ 24 := hfew
      have hlen := dpAll_len hA6
      have hlen2 := dpAll_len hacc
      have hpl := pl_len its
      have e1 : (items its).length = its.length := List.length_map _
      refine ⟨l, D, ys, acc, rfl, rfl, l7, hD7, ?_, ?_⟩
      · rw [hlen, hlen2, e1]
        show its.length + 2 ≤ sizeLine
        rw [sizeLine_eq]
        omega
      refine ⟨_, rfl, _, _, rfl, rfl, false, ?_, ?_⟩
      · refine congrArg V.bl (decide_eq_false ?_)
        omega
      refine ⟨pn (its ++ [(b, dp + 1), (c, dp + 1)]), ?_, _, ys ++ acc, n, _, _, _, rfl, rfl, ⟨fun it hit => ?_, ?_⟩, g7.own hlH l7, upd_same, ?_⟩
      · rw [pn_app, pn_app, pn_one]
        show pn its + (b.nodes + (c.nodes + 0)) < pn its + (1 + b.nodes + c.nodes)
        omega
      · have hd9 : dp + (1 + max b.depth c.depth) ≤ 9 := hitd
        rcases List.mem_append.mp hit with z | z
        · exact hp' it z
        · rcases List.mem_cons.mp z with rfl | z
          · exact ⟨hitok.1, by show dp + 1 + b.depth ≤ 9; omega⟩
          · rw [List.mem_singleton.mp z]
            exact ⟨hitok.2, by show dp + 1 + c.depth ≤ 9; omega⟩
      · rw [pl_app]
        show n + (pl its + (b.letters + (c.letters + 0))) ≤ 24
        omega
      · rw [items_app]
        have tt : Tu H7 (upd H7 l (.lst (ys ++ acc))) := Tu.lst l7
        exact dpAll_app ((t7.trans tt).dps _ _ (items_tup _) hA6) (tt.dps _ _ (items_tup _) hacc)
end
end K78
set_option Elab.async false
set_option linter.all false
set_option maxRecDepth 100000
/-! K78, part 11: require_word, require_two_words, way_count_in, copy_count. -/
namespace K78
open PySem PySem.Spec PyProof.Rows L2 LamX
theorem add_le_mul {A B : Nat} (h1 : 2 ≤ A) (h2 : 2 ≤ B) : A + B ≤ A * B := by
  obtain ⟨x, rfl⟩ : ∃ x, A = x + 2 := ⟨A - 2, by omega⟩
  obtain ⟨y, rfl⟩ : ∃ y, B = y + 2 := ⟨B - 2, by omega⟩
  rw [Nat.add_mul, Nat.mul_add]
  generalize x * y = z
  omega
theorem two_le_pow {n : Nat} (h : 1 ≤ n) : 2 ≤ 2 ^ n := by
  have := Nat.pow_le_pow_right (n := 2) (by decide) h
  simpa using this
theorem W.cnt_le : ∀ w : W, 2 * w.cnt ≤ 2 ^ w.letters
  | .lt _ _ => by simp [W.cnt, W.letters]
  | .nd k a b => by
    have h1 := W.cnt_le a
    have h2 := W.cnt_le b
    have p1 := two_le_pow a.letters_pos
    have p2 := two_le_pow b.letters_pos
    show 2 * (W.nd k a b).cnt ≤ 2 ^ (a.letters + b.letters)
    rw [Nat.pow_add]
    have h3 := add_le_mul p1 p2
    have h4 := Nat.mul_le_mul h1 h2
    have h5 : 2 * (a.cnt * b.cnt) ≤ 2 * a.cnt * (2 * b.cnt) := by
      rw [Nat.mul_assoc, Nat.mul_left_comm a.cnt 2]
      omega
    cases k <;> simp only [W.cnt] <;> omega
theorem W.cnt_small {w : W} (h : w.letters ≤ 24) : w.cnt < 2 ^ 64 := by
  have h1 := W.cnt_le w
  have h2 := Nat.pow_le_pow_right (n := 2) (by decide) h
  omega
section
variable {pr : Program} {w : World} {K : PySem.W.Frag} {mg : Str → Option Value} {base : Heap} {P0 : Addr}
theorem fn_none {f : Addr} {fd : FuncData} {ps : List Str} {sp : Sp} {k : Nat} (no : ∀ vs H Q E, ¬ sp vs H Q E) : FnOk pr w K mg base CX0 k f fd ps sp :=
  ⟨fun vs H Q E h => absurd h (no vs H Q E), fun A outer s H args us vs Q E _ _ _ _ h => absurd h (no vs H Q E)⟩
/-! ### require_word, require_two_words -/
abbrev sReq : Stmt := topS 21
theorem scReq : FnScope ["value"] ["value"] (defScope sReq) := ⟨rfl, rfl, rfl, by decide +kernel, rfl, by decide +kernel, by decide +kernel⟩
def spReq (K : PySem.W.Frag) (P0 : Addr) : Sp := fun vs H Q _ => ∃ (wd : W) (v : V), vs = [v] ∧ IsW K H v wd ∧ wd.ok nm ∧ wd.letters ≤ 24 ∧ wd.depth ≤ 8 ∧ ∀ H', Gx P0 [] H H' → Q .non H'
theorem ok_req (d : Def K mg "require_word" sReq ["value"]) (dw : Def K mg "is_word_in" sWordIn ["value"]) (Gw : FnOk pr w K mg base CX0 3 dw.f dw.fd ["value"] (spWordIn K P0)) : FnOk pr w K mg base CX0 4 d.f d.fd ["value"] (spReq K P0) := by
  refine d.fn.ok scReq (fun vs H Q E h => ?_) (fun cdv A outer s H vs Q E hr h => ?_)
  · obtain ⟨wd, v, rfl, _⟩ := h
    rfl
  obtain ⟨wd, v, rfl, hw, hok, hl, hd, q⟩ := h
  refine ⟨_, pss_one (ps_if (pt_not (pt_val (pe_def dw Gw hr (pa_cons (pv 0) pa_nil)))) (pss_one ps_never) pss_nil), ?_⟩
  exact ⟨_, rfl, wd, v, rfl, hw, hok, hl, hd, fun H1 g1 => ⟨true, rfl, q H1 g1⟩⟩
abbrev sReq2 : Stmt := topS 22
theorem scReq2 : FnScope ["one", "other"] ["one", "other"] (defScope sReq2) := ⟨rfl, rfl, rfl, by decide +kernel, rfl, by decide +kernel, by decide +kernel⟩
structure WOk (wd : W) : Prop where
  ok : wd.ok nm
  few : wd.letters ≤ 24
  low : wd.depth ≤ 8
def spReq2 (K : PySem.W.Frag) (P0 : Addr) : Sp := fun vs H Q _ => ∃ (wd wd2 : W) (v v2 : V), vs = [v, v2] ∧ IsW K H v wd ∧ IsW K H v2 wd2 ∧ WOk wd ∧ WOk wd2 ∧ ∀ H', Gx P0 [] H H' → Q .non H'
theorem ok_req2 (d : Def K mg "require_two_words" sReq2 ["one", "other"]) (dr : Def K mg "require_word" sReq ["value"]) (Gr : FnOk pr w K mg base CX0 4 dr.f dr.fd ["value"] (spReq K P0)) : FnOk pr w K mg base CX0 5 d.f d.fd ["one", "other"] (spReq2 K P0) := by
  refine d.fn.ok scReq2 (fun vs H Q E h => ?_) (fun cdv A outer s H vs Q E hr h => ?_)
  · obtain ⟨wd, wd2, v, v2, rfl, _⟩ := h
    rfl
  obtain ⟨wd, wd2, v, v2, rfl, hw, hw2, o1, o2, q⟩ := h
  refine ⟨_, pss_cons (ps_expr (pe_def dr Gr hr (pa_cons (pv 0) pa_nil))) (pss_one (ps_expr (pe_def dr Gr hr (pa_cons (pv 1) pa_nil)))), ?_⟩
  refine ⟨_, rfl, wd, v, rfl, hw, o1.ok, o1.few, o1.low, fun H1 g1 => ?_⟩
  exact ⟨_, rfl, wd2, v2, rfl, g1.tu.isW hw2, o2.ok, o2.few, o2.low, fun H2 g2 => q H2 (g1.trans g2)⟩

/-! ### way_count_in -/
abbrev sCnt : Stmt := topS 20
theorem scCnt : FnScope ["word", "one", "other"] ["word"] (defScope sCnt) := ⟨rfl, rfl, rfl, by decide +kernel, rfl, by decide +kernel, by decide +kernel⟩
def spCnt (K : PySem.W.Frag) (P0 : Addr) (n : Nat) : Sp := fun vs H Q _ => ∃ (wd : W) (v : V), vs = [v] ∧ IsW K H v wd ∧ wd.depth ≤ n ∧ wd.letters ≤ 24 ∧ ∀ H', Gx P0 [] H H' → Q (.int wd.cnt) H'
theorem in_mine (k : Kd) : inV (.str k.name) [.str "mine", .str "theirs"] = decide (k.over = none) := by cases k <;> decide +kernel
theorem cnt_choice {k : Kd} (h : k.over = none) (a b : W) : (W.nd k a b).cnt = a.cnt + b.cnt := by cases k <;> first | rfl | cases h
theorem cnt_spread {k : Kd} (h : k.over ≠ none) (a b : W) : (W.nd k a b).cnt = a.cnt * b.cnt := by cases k <;> first | rfl | exact absurd rfl h
theorem cnt_step (T : Txt K mg w) (d : Def K mg "way_count_in" sCnt ["word"]) (n : Nat) (G : FnOk pr w K mg base CX0 n d.f d.fd ["word"] (spCnt K P0 n)) : FnOk pr w K mg base CX0 (n + 1) d.f d.fd ["word"] (spCnt K P0 (n + 1)) := by
  refine d.fn.ok scCnt (fun vs H Q E h => ?_) (fun cdv A outer s H vs Q E hr h => ?_)
  · obtain ⟨wd, v, rfl, _⟩ := h
    rfl
  obtain ⟨wd, v, rfl, hw, hd, hl, q⟩ := h
  refine ⟨_, pss_cons (ps_if (pt_cmpR op_eq (pe_ix ix_tup (pv 0) pe_int (fun _ _ => rfl)) (pe_gs T.LETTER) (nomark _)) (pss_one (ps_ret pe_int)) pss_nil)
    (pss_cons (ps_par (i := 1) (j := 2) rfl scCnt.nd rfl rfl (by decide) rfl rfl (pa_cons (pe_def d G hr (pa_cons (pe_ix ix_tup (pv 0) pe_int (fun _ _ => rfl)) pa_nil)) (pa_cons (pe_def d G hr (pa_cons (pe_ix ix_tup (pv 0) pe_int (fun _ _ => rfl)) pa_nil)) pa_nil)) (by rfl))
    (pss_one (ps_ret (pe_ifExp (pt_cmpR op_in_seq (pe_ix ix_tup (pv 0) pe_int (fun _ _ => rfl)) (pe_tup (pa_cons (pe_gs T.MINE) (pa_cons (pe_gs T.THEIRS) pa_nil))) rfl) (pe_op op_add (pv 1) (pv 2)) (pe_op op_mul (pv 1) (pv 2)))))), ?_⟩
  cases wd with
  | lt nme i =>
    obtain ⟨a, rfl, hs⟩ := isW_lt hw
    refine ⟨_, rfl, a, _, 0, _, rfl, rfl, hs, atI_nat (j := 0) rfl, rfl, true, rfl, ?_⟩
    exact q H (Gx.refl _ _ _)
  | nd k b c =>
    obtain ⟨a, v1, v2, rfl, hs, h1, h2⟩ := isW_nd hw
    have hd' : 1 + max b.depth c.depth ≤ n + 1 := hd
    have hl' : b.letters + c.letters ≤ 24 := hl
    refine ⟨_, rfl, a, _, 0, _, rfl, rfl, hs, atI_nat (j := 0) rfl, rfl, false, ?_, ?_⟩
    · rw [dec_kd]
    refine ⟨_, rfl, a, _, 1, _, rfl, rfl, hs, atI_nat (j := 1) rfl, b, v1, rfl, h1, by omega, by omega, fun H1 g1 => ?_⟩
    have hs1 := g1.tu.seq hs
    refine ⟨_, rfl, a, _, 2, _, rfl, rfl, hs1, atI_nat (j := 2) rfl, c, v2, rfl, g1.tu.isW h2, by omega, by omega, fun H2 g2 => ⟨_, _, rfl, ?_⟩⟩
    have hs2 := g2.tu.seq hs1
    refine ⟨_, rfl, a, _, 0, _, rfl, rfl, hs2, atI_nat (j := 0) rfl, (by show 2 ≤ sizeLine; decide), fun t ht => ?_⟩
    refine ⟨t, _, rfl, .inr (SqT.of upd_same), rfl, rfl, decide (k.over = none), ?_, ?_⟩
    · rw [if_neg Bool.false_ne_true, in_mine]
    have g3 : Gx P0 [] H (upd H2 t (.tup [.str "mine", .str "theirs"])) := (g1.trans g2).trans (Gx.new ht)
    by_cases ho : k.over = none
    · rw [decide_eq_true ho]
      refine ⟨_, rfl, _, rfl, _, _, rfl, rfl, ?_⟩
      have z := q _ g3
      rw [cnt_choice ho, Int.natCast_add] at z
      exact z
    · rw [decide_eq_false ho]
      have hb := W.cnt_small (w := b) (by omega)
      refine ⟨_, rfl, _, rfl, _, _, rfl, rfl, .inl ⟨by omega, by omega⟩, ?_⟩
      have z := q _ g3
      rw [cnt_spread ho, Int.natCast_mul] at z
      exact z
theorem ok_cnt (T : Txt K mg w) (d : Def K mg "way_count_in" sCnt ["word"]) : ∀ n : Nat, FnOk pr w K mg base CX0 n d.f d.fd ["word"] (spCnt K P0 n)
  | 0 => fn_none fun vs H Q E h => by
    obtain ⟨wd, v, _, _, hd, _⟩ := h
    have := wd.depth_pos
    omega
  | n + 1 => cnt_step T d n (ok_cnt T d n)
/-! ### copy_count -/
abbrev sCopy : Stmt := topS 34
theorem scCopy : FnScope ["word"] ["word"] (defScope sCopy) := ⟨rfl, rfl, rfl, by decide +kernel, rfl, by decide +kernel, by decide +kernel⟩
def spCopy (K : PySem.W.Frag) (P0 : Addr) : Sp := fun vs H Q _ => ∃ (wd : W) (v : V), vs = [v] ∧ IsW K H v wd ∧ WOk wd ∧ ∀ H', Gx P0 [] H H' → Q (.int wd.cnt) H'
theorem ok_copy (d : Def K mg "copy_count" sCopy ["word"]) (dr : Def K mg "require_word" sReq ["value"]) (dc : Def K mg "way_count_in" sCnt ["word"]) (Gr : FnOk pr w K mg base CX0 8 dr.f dr.fd ["value"] (spReq K P0)) (Gc : FnOk pr w K mg base CX0 8 dc.f dc.fd ["word"] (spCnt K P0 8)) :
    FnOk pr w K mg base CX0 9 d.f d.fd ["word"] (spCopy K P0) := by
  refine d.fn.ok scCopy (fun vs H Q E h => ?_) (fun cdv A outer s H vs Q E hr h => ?_)
  · obtain ⟨wd, v, rfl, _⟩ := h
    rfl
  obtain ⟨wd, v, rfl, hw, o, q⟩ := h
  refine ⟨_, pss_cons (ps_expr (pe_def dr Gr hr (pa_cons (pv 0) pa_nil))) (pss_one (ps_ret (pe_def dc Gc hr (pa_cons (pv 0) pa_nil)))), ?_⟩
  refine ⟨_, rfl, wd, v, rfl, hw, o.ok, o.few, o.low, fun H1 g1 => ?_⟩
  exact ⟨_, rfl, wd, v, rfl, g1.tu.isW hw, o.low, o.few, fun H2 g2 => q H2 (g1.trans g2)⟩
end
end K78
set_option Elab.async false
set_option linter.all false
set_option maxRecDepth 100000
/-! K78, part 12: bare, form_letters, parts_by, need_form. -/
namespace K78
open PySem PySem.Spec PyProof.Rows L2 LamX

/-! ### loops over a tuple or a list -/
theorem it_tup {K : PySem.W.Frag} {a : Addr} {xs : List V} {H0 : Hp} {Body : V → Hp → (Hp → Prop) → Prop} {End : Hp → Prop} (Pv : Nat → Hp → Prop) (h0 : Pv 0 H0) (hl : ∀ i H, i ≤ xs.length → Pv i H → SqT K H a xs)
    (hs : ∀ i x H, xs[i]? = some x → Pv i H → Body x H (Pv (i + 1))) (hd : ∀ H, Pv xs.length H → End H) :
    ∃ W : Nat → Nat → Hp → Prop, (∃ m, W 0 m H0) ∧ ∀ i m H, W i m H →
      ((Itt K a).stop i H ∧ End H) ∨ ((Itt K a).go i H ∧ ∃ Nx : Hp → Prop, (∀ H', Nx H' → ∃ m', m' < m ∧ W (i + 1) m' H') ∧ ∀ x H', (Itt K a).yld i H x H' → Body x H' Nx) := by
  refine ⟨fun i m H => m = xs.length - i ∧ i ≤ xs.length ∧ Pv i H, ⟨xs.length, rfl, Nat.zero_le _, h0⟩, ?_⟩
  rintro i m H ⟨rfl, hi, p⟩
  have q := hl i H hi p
  by_cases hlt : i < xs.length
  · refine .inr ⟨⟨xs, xs[i], q, List.getElem?_eq_getElem hlt⟩, Pv (i + 1), fun H' p' => ⟨xs.length - (i + 1), by omega, rfl, hlt, p'⟩, ?_⟩
    rintro x H' ⟨rfl, hx⟩
    exact hs i x _ (hx xs q) p
  · have e : i = xs.length := by omega
    subst e
    exact .inl ⟨⟨xs, q, Nat.le_refl _⟩, hd H p⟩
theorem it_list {K : PySem.W.Frag} {a : Addr} {xs : List V} {H0 : Hp} {Body : V → Hp → (Hp → Prop) → Prop} {End : Hp → Prop} (Pv : Nat → Hp → Prop) (h0 : Pv 0 H0) (hl : ∀ i H, i ≤ xs.length → Pv i H → SqL K H a xs)
    (hs : ∀ i x H, xs[i]? = some x → Pv i H → Body x H (Pv (i + 1))) (hd : ∀ H, Pv xs.length H → End H) :
    ∃ W : Nat → Nat → Hp → Prop, (∃ m, W 0 m H0) ∧ ∀ i m H, W i m H →
      ((Itl K a).stop i H ∧ End H) ∨ ((Itl K a).go i H ∧ ∃ Nx : Hp → Prop, (∀ H', Nx H' → ∃ m', m' < m ∧ W (i + 1) m' H') ∧ ∀ x H', (Itl K a).yld i H x H' → Body x H' Nx) := by
  refine ⟨fun i m H => m = xs.length - i ∧ i ≤ xs.length ∧ Pv i H, ⟨xs.length, rfl, Nat.zero_le _, h0⟩, ?_⟩
  rintro i m H ⟨rfl, hi, p⟩
  have q := hl i H hi p
  by_cases hlt : i < xs.length
  · refine .inr ⟨⟨xs, xs[i], q, List.getElem?_eq_getElem hlt⟩, Pv (i + 1), fun H' p' => ⟨xs.length - (i + 1), by omega, rfl, hlt, p'⟩, ?_⟩
    rintro x H' ⟨rfl, hx⟩
    exact hs i x _ (hx xs q) p
  · have e : i = xs.length := by omega
    subst e
    exact .inl ⟨⟨xs, q, Nat.le_refl _⟩, hd H p⟩

/-! ### small forms -/
structure Sml (B n : Nat) (f : F) : Prop where
  pos : F.pos f
  few : F.size f ≤ B
  low : F.depth f ≤ n
theorem Sml.part {B n : Nat} {k : Kd} {fs : List F} (h : Sml B (n + 1) (.nd k fs)) {f : F} (hf : f ∈ fs) : Sml B n f := by
  obtain ⟨h1, h2, h3⟩ := h
  have h1 : fs ≠ [] ∧ F.poss fs := by simpa only [F.pos] using h1
  have h2 : F.sizes fs ≤ B := by simpa only [F.size] using h2
  have h3 : 1 + F.depths fs ≤ n + 1 := by simpa only [F.depth] using h3
  have e2 := F.mem_size hf
  have e3 := F.mem_depth hf
  exact ⟨F.poss_iff.mp h1.2 f hf, by omega, by omega⟩
theorem Sml.len {B n : Nat} {k : Kd} {fs : List F} (h : Sml B n (.nd k fs)) : fs.length ≤ B := by
  obtain ⟨h1, h2, h3⟩ := h
  have h1 : fs ≠ [] ∧ F.poss fs := by simpa only [F.pos] using h1
  have h2 : F.sizes fs ≤ B := by simpa only [F.size] using h2
  have := F.sizes_len fs h1.2
  omega
theorem Sml.no {B : Nat} {f : F} (h : Sml B 0 f) : False := by
  have := h.low
  cases f with
  | lt n s => simp [F.depth] at this
  | nd k fs => simp [F.depth] at this
theorem big_of {n : Nat} (h : n ≤ 8388608) : n < sizeLine := by rw [sizeLine_eq]; omega
theorem P.bare_lt (n : Str) (s : Int) (path : List Int) : (P.lt n s path).bare = .lt n s := by rw [P.bare]
theorem P.bare_nd (k : Kd) (ps : List P) : (P.nd k ps).bare = .nd k (ps.map P.bare) := by rw [P.bare, P.bares_map]
section
variable {pr : Program} {w : World} {K : PySem.W.Frag} {mg : Str → Option Value} {base : Heap} {P0 : Addr}
theorem AreF.snoc {H : Hp} {vs : List V} {fs : List F} {v : V} {f : F} (x : AreF K H vs fs) (y : IsF K H v f) : AreF K H (vs ++ [v]) (fs ++ [f]) := x.append (AreF.cons y AreF.nil)
theorem AreP.snoc {H : Hp} {vs : List V} {fs : List P} {v : V} {f : P} (x : AreP K H vs fs) (y : IsP K H v f) : AreP K H (vs ++ [v]) (fs ++ [f]) := x.append (AreP.cons y AreP.nil)
theorem take_snoc {α : Type} {l : List α} {i : Nat} {x : α} (h : l[i]? = some x) : l.take (i + 1) = l.take i ++ [x] := by
  rw [List.take_add_one, h]
  rfl

/-! ### bare -/
abbrev sBare : Stmt := topS 28
abbrev nBare : List Str := ["form", "part"]
theorem scBare : FnScope nBare ["form"] (defScope sBare) := ⟨rfl, rfl, rfl, by decide +kernel, rfl, by decide +kernel, by decide +kernel⟩
def spBare (K : PySem.W.Frag) (P0 : Addr) (n : Nat) : Sp := fun vs H Q _ => ∃ (p : P) (v : V), vs = [v] ∧ IsP K H v p ∧ Sml 200 n p.bare ∧ ∀ H' r, Gx P0 [] H H' → IsF K H' r p.bare → Q r H'
theorem bare_step (T : Txt K mg w) (d : Def K mg "bare" sBare ["form"]) (n : Nat) (G : FnOk pr w K mg base CX0 n d.f d.fd ["form"] (spBare K P0 n)) : FnOk pr w K mg base CX0 (n + 1) d.f d.fd ["form"] (spBare K P0 (n + 1)) := by
  refine d.fn.ok scBare (fun vs H Q E h => ?_) (fun cdv A outer s H vs Q E hr h => ?_)
  · obtain ⟨p, v, rfl, _⟩ := h
    rfl
  obtain ⟨p, v, rfl, hp, hs, q⟩ := h
  refine ⟨_, pss_one (ps_ret (pe_ifExp (pt_cmpR op_eq (pe_ix ix_tup (pv 0) pe_int (fun _ _ => rfl)) (pe_gs T.LETTER) (nomark _)) (pe_slice sl_tup (pv 0) po_none (po_some (pe_gi T.TRIPLE_alike)))
    (pe_tup (pa_cons (pe_ix ix_tup (pv 0) pe_int (fun _ _ => rfl)) (pa_cons (pe_callTy call_tuple_of rfl T.tuple (by decide +kernel) (pa_cons
      (pe_lc (own := [("part", 1)]) (g := gName 1) (tt := tYes) rfl scBare.nd (pi_tup (pe_ix ix_tup (pv 0) pe_int (fun _ _ => rfl))) (blkOk_by (N := nBare) (sc := defScope sBare) (by decide +kernel))
        (fun _ _ _ _ _ => pg_name (i := 1) scBare.nd rfl (Or.inl rfl)) (fun _ _ _ _ _ => pts_nil) (fun _ _ _ _ _ => pe_def d G hr (pa_cons (pv 1) pa_nil))) pa_nil)) pa_nil))))), ?_⟩
  cases p with
  | lt nme i path =>
    obtain ⟨a, c, rfl, hsq⟩ := isP_lt hp
    refine ⟨_, rfl, a, _, 0, _, rfl, rfl, hsq, atI_nat (j := 0) rfl, rfl, true, rfl, ?_⟩
    refine ⟨_, rfl, 3, rfl, a, _, rfl, hsq, ?_, fun t ht => ?_⟩
    · rintro ⟨_, z⟩
      have z : HT.sIx 4 4 (some ((3 : Nat) : Int)) = 4 := z
      rw [HT.sIx_nat] at z
      revert z
      decide
    refine q _ _ (Gx.new ht) ?_
    rw [P.bare_lt]
    exact isF_mk_lt (SqT.of upd_same)
  | nd k ps =>
    obtain ⟨a, c, vs, rfl, hsq, hc, hA⟩ := isP_nd hp
    rw [P.bare_nd] at hs q
    have hlen := hs.len
    rw [List.length_map] at hlen
    refine ⟨_, rfl, a, _, 0, _, rfl, rfl, hsq, atI_nat (j := 0) rfl, rfl, false, by rw [dec_kd], ?_⟩
    refine ⟨_, rfl, a, _, 0, _, rfl, rfl, hsq, atI_nat (j := 0) rfl, ?_⟩
    refine ⟨_, rfl, a, _, 1, _, rfl, rfl, hsq, atI_nat (j := 1) rfl, c, rfl, ⟨_, hc⟩, fun D hD => ?_⟩
    refine it_tup (K := K) (xs := vs) (fun i H7 => Gx P0 [] H H7 ∧ ∃ acc, H7 D = some (.lst acc) ∧ AreF K H7 acc ((ps.map P.bare).take i))
      ⟨Gx.new hD, [], upd_same, AreF.nil⟩ (fun i H7 _ h7 => h7.1.tu.seq hc) (fun i x H7 hi h7 => ?_) (fun H7 h7 => ?_)
    · obtain ⟨g7, acc, hD7, hacc⟩ := h7
      obtain ⟨p, ep, hp⟩ := hA.get hi
      have epb : (ps.map P.bare)[i]? = some p.bare := by rw [List.getElem?_map, ep]; rfl
      refine ⟨rfl, _, rfl, p, x, rfl, g7.tu.isP hp, hs.part (List.mem_of_getElem? epb), fun H8 r g8 hr8 => ?_⟩
      have hD8 := g8.lstA (by simp) hD7
      refine ⟨acc, hD8, ?_, (g7.trans g8).own hD hD8, acc ++ [r], upd_same, ?_⟩
      · rw [hacc.len]
        refine big_of ?_
        rw [List.length_take, List.length_map]
        omega
      · rw [take_snoc epb]
        have t := (Tu.lst (o := .lst (acc ++ [r])) hD8)
        exact ((g8.tu.trans t).areF hacc).snoc (t.isF hr8)
    · obtain ⟨g7, acc, hD7, hacc⟩ := h7
      have e : (ps.map P.bare).take vs.length = ps.map P.bare := by
        rw [hA.len]
        refine List.take_of_length_le ?_
        rw [List.length_map]
        exact Nat.le_refl _
      rw [e] at hacc
      refine ⟨D, acc, rfl, .inl ⟨SqL.of hD7, fun t ht => ⟨(by show 2 ≤ sizeLine; decide), fun u hu => ?_⟩⟩⟩
      have g8 : Gx P0 [] H (upd (upd H7 t (.tup acc)) u (.tup [.str k.name, .ref t])) := (g7.trans (Gx.new ht)).trans (Gx.new hu)
      refine q _ _ g8 ?_
      refine isF_mk_nd (c := t) (vs := acc) (SqT.of upd_same) (SqT.of ?_) (((Tu.new ht).trans (Tu.new hu)).areF hacc)
      rw [upd_ne (ne_of_none upd_same hu), upd_same]
theorem ok_bare (T : Txt K mg w) (d : Def K mg "bare" sBare ["form"]) : ∀ n : Nat, FnOk pr w K mg base CX0 n d.f d.fd ["form"] (spBare K P0 n)
  | 0 => fn_none fun vs H Q E h => by
    obtain ⟨p, v, _, _, hd, _⟩ := h
    exact hd.no
  | n + 1 => bare_step T d n (ok_bare T d n)
end
end K78
set_option Elab.async false
set_option linter.all false
set_option maxRecDepth 100000
/-! K78, part 13: form_letters, parts_by, need_form. -/
namespace K78
open PySem PySem.Spec PyProof.Rows L2 LamX
theorem F.sizes_take {fs : List F} {i : Nat} {f : F} (h : fs[i]? = some f) : F.sizes (fs.take (i + 1)) = F.sizes (fs.take i) + F.size f := by
  rw [take_snoc h, F.sizes_append]
  simp [F.sizes]
theorem F.sizes_take_le (fs : List F) (i : Nat) : F.sizes (fs.take i) ≤ F.sizes fs := by
  have h := F.sizes_append (fs.take i) (fs.drop i)
  rw [List.take_append_drop] at h
  omega
section
variable {pr : Program} {w : World} {K : PySem.W.Frag} {mg : Str → Option Value} {base : Heap} {P0 : Addr}
/-! ### form_letters -/
abbrev sFLet : Stmt := topS 29
abbrev nFLet : List Str := ["form", "part", "letter"]
theorem scFLet : FnScope nFLet ["form"] (defScope sFLet) := ⟨rfl, rfl, rfl, by decide +kernel, rfl, by decide +kernel, by decide +kernel⟩
def spFLet (K : PySem.W.Frag) (P0 : Addr) (n : Nat) : Sp := fun vs H Q _ => ∃ (p : P) (v : V), vs = [v] ∧ IsP K H v p ∧ Sml 200 n p.bare ∧
  ∀ H' D xs, Gx P0 [] H H' → H D = none → H' D = some (.lst xs) → xs.length = F.size p.bare → Q (.ref D) H'
theorem flet_step (T : Txt K mg w) (d : Def K mg "form_letters" sFLet ["form"]) (n : Nat) (G : FnOk pr w K mg base CX0 n d.f d.fd ["form"] (spFLet K P0 n)) : FnOk pr w K mg base CX0 (n + 1) d.f d.fd ["form"] (spFLet K P0 (n + 1)) := by
  refine d.fn.ok scFLet (fun vs H Q E h => ?_) (fun cdv A outer s H vs Q E hr h => ?_)
  · obtain ⟨p, v, rfl, _⟩ := h
    rfl
  obtain ⟨p, v, rfl, hp, hs, q⟩ := h
  refine ⟨_, pss_one (ps_ret (pe_ifExp (pt_cmpR op_eq (pe_ix ix_tup (pv 0) pe_int (fun _ _ => rfl)) (pe_gs T.LETTER) (nomark _)) (pe_lst (pa_cons (pv 0) pa_nil))
      (pe_lc2 (own := [("part", 1), ("letter", 2)]) (vs1 := [2]) (g := gName 1) (g1 := gName 2) (tt := tYes) (tt1 := tYes) (wi1 := iList K _) rfl scFLet.nd (pi_tup (pe_ix ix_tup (pv 0) pe_int (fun _ _ => rfl))) (blkOk_by (N := nFLet) (sc := defScope sFLet) (by decide +kernel)) (by decide)
        (fun _ _ _ _ _ => pg_name (i := 1) scFLet.nd rfl (Or.inl rfl)) (fun _ _ _ _ _ => pts_nil)
        (fun _ _ _ _ _ => pi_list (pe_def d G hr (pa_cons (pv 1) pa_nil)))
        (fun _ _ _ _ _ => pg_name (i := 2) scFLet.nd rfl (Or.inl rfl)) (fun _ _ _ _ _ => pts_nil) (fun _ _ _ _ _ => pv 2)))), ?_⟩
  cases p with
  | lt nme i path =>
    obtain ⟨a, c, rfl, hsq⟩ := isP_lt hp
    refine ⟨_, rfl, a, _, 0, _, rfl, rfl, hsq, atI_nat (j := 0) rfl, rfl, true, rfl, ?_⟩
    refine ⟨_, rfl, (by show 1 ≤ sizeLine; decide), fun t ht => ?_⟩
    refine q _ _ _ (Gx.new ht) ht upd_same ?_
    rw [P.bare_lt]
    rfl
  | nd k ps =>
    obtain ⟨a, c, vs, rfl, hsq, hc, hA⟩ := isP_nd hp
    rw [P.bare_nd] at hs q
    have hsum : F.sizes (ps.map P.bare) ≤ 200 := by simpa only [F.size] using hs.few
    refine ⟨_, rfl, a, _, 0, _, rfl, rfl, hsq, atI_nat (j := 0) rfl, rfl, false, by rw [dec_kd], ?_⟩
    refine ⟨_, rfl, a, _, 1, _, rfl, rfl, hsq, atI_nat (j := 1) rfl, c, rfl, ⟨_, hc⟩, fun D hD => ?_⟩
    refine it_tup (K := K) (xs := vs) (fun i H7 => Gx P0 [] H H7 ∧ ∃ acc, H7 D = some (.lst acc) ∧ acc.length = F.sizes ((ps.map P.bare).take i))
      ⟨Gx.new hD, [], upd_same, rfl⟩ (fun i H7 _ h7 => h7.1.tu.seq hc) (fun i x H7 hi h7 => ?_) (fun H7 h7 => ?_)
    · obtain ⟨g7, acc, hD7, hacc⟩ := h7
      obtain ⟨p, ep, hp⟩ := hA.get hi
      have epb : (ps.map P.bare)[i]? = some p.bare := by rw [List.getElem?_map, ep]; rfl
      refine ⟨rfl, _, rfl, p, x, rfl, g7.tu.isP hp, hs.part (List.mem_of_getElem? epb), fun H8 D8 xs8 g8 hn8 hx8 hl8 => ?_⟩
      have hD8 := g8.lstA (by simp) hD7
      have hne : D8 ≠ D := fun z => by rw [z, hD7] at hn8; cases hn8
      have hst := F.sizes_take epb
      have hle := F.sizes_take_le (ps.map P.bare) (i + 1)
      refine ⟨D8, rfl, ⟨_, SqL.of hx8⟩, ?_⟩
      refine it_list (K := K) (xs := xs8) (fun j H9 => Gx P0 [] H H9 ∧ H9 D8 = some (.lst xs8) ∧ ∃ acc', H9 D = some (.lst acc') ∧ acc'.length = acc.length + j)
        ⟨g7.trans g8, hx8, acc, hD8, rfl⟩ (fun j H9 _ h9 => SqL.of h9.2.1) (fun j y H9 hj h9 => ?_) (fun H9 h9 => ?_)
      · obtain ⟨g9, hx9, acc', hD9, hl9⟩ := h9
        have hjl : j < xs8.length := (List.getElem?_eq_some_iff.mp hj).1
        refine ⟨rfl, y, rfl, acc', hD9, big_of (by omega), g9.own hD hD9, ?_, acc' ++ [y], upd_same, ?_⟩
        · rw [upd_ne hne]
          exact hx9
        · rw [List.length_append, List.length_singleton]
          omega
      · obtain ⟨g9, hx9, acc', hD9, hl9⟩ := h9
        exact ⟨g9, acc', hD9, by omega⟩
    · obtain ⟨g7, acc, hD7, hacc⟩ := h7
      refine q _ _ _ g7 hD hD7 ?_
      rw [hacc, hA.len, List.take_of_length_le (by rw [List.length_map]; exact Nat.le_refl _)]
      simp only [F.size]
theorem ok_flet (T : Txt K mg w) (d : Def K mg "form_letters" sFLet ["form"]) : ∀ n : Nat, FnOk pr w K mg base CX0 n d.f d.fd ["form"] (spFLet K P0 n)
  | 0 => fn_none fun vs H Q E h => by
    obtain ⟨p, v, _, _, hd, _⟩ := h
    exact hd.no
  | n + 1 => flet_step T d n (ok_flet T d n)

/-! ### parts_by -/
abbrev sPBy : Stmt := topS 30
theorem scPBy : FnScope ["kind", "form"] ["kind", "form"] (defScope sPBy) := ⟨rfl, rfl, rfl, by decide +kernel, rfl, by decide +kernel, by decide +kernel⟩
def spPBy (K : PySem.W.Frag) (P0 : Addr) : Sp := fun vs H Q _ => ∃ (k : Kd) (p : P) (v : V), vs = [.str k.name, v] ∧ IsP K H v p ∧
  ∀ H' D xs, Gx P0 [] H H' → H D = none → H' D = some (.lst xs) → AreP K H' xs (P.parts k p) → Q (.ref D) H'
theorem dec_kk (k l : Kd) : decide (V.str l.name = V.str k.name) = decide (l = k) := by
  by_cases h : l = k
  · subst h
    simp
  · rw [decide_eq_false h]
    refine decide_eq_false fun z => h (Kd.name_inj ?_)
    injection z
theorem dec_lk (k : Kd) : decide (V.str "letter" = V.str k.name) = false := decide_eq_false fun z => k.name_ne (by injection z with z; exact z.symm)
theorem ok_pby (T : Txt K mg w) (d : Def K mg "parts_by" sPBy ["kind", "form"]) : FnOk pr w K mg base CX0 1 d.f d.fd ["kind", "form"] (spPBy K P0) := by
  refine d.fn.ok scPBy (fun vs H Q E h => ?_) (fun cdv A outer s H vs Q E hr h => ?_)
  · obtain ⟨k, p, v, rfl, _⟩ := h
    rfl
  obtain ⟨k, p, v, rfl, hp, q⟩ := h
  refine ⟨_, pss_one (ps_ret (pe_ifExp (pt_cmpR op_eq (pe_ix ix_tup (pv 1) pe_int (fun _ _ => rfl)) (pv 0) (nomark _)) (pe_callTy call_list_of rfl T.list (by decide +kernel) (pa_cons (pe_ix ix_tup (pv 1) pe_int (fun _ _ => rfl)) pa_nil))
    (pe_lst (pa_cons (pv 1) pa_nil)))), ?_⟩
  cases p with
  | lt nme i path =>
    obtain ⟨a, c, rfl, hsq⟩ := isP_lt hp
    refine ⟨_, rfl, a, _, 0, _, rfl, rfl, hsq, atI_nat (j := 0) rfl, _, rfl, rfl, false, ?_, ?_⟩
    · exact congrArg V.bl (dec_lk k)
    refine ⟨_, rfl, (by show 1 ≤ sizeLine; decide), fun t ht => ?_⟩
    refine q _ _ _ (Gx.new ht) ht upd_same ?_
    exact AreP.cons ((Tu.new ht).isP hp) AreP.nil
  | nd l ps =>
    obtain ⟨a, c, vs, rfl, hsq, hc, hA⟩ := isP_nd hp
    refine ⟨_, rfl, a, _, 0, _, rfl, rfl, hsq, atI_nat (j := 0) rfl, _, rfl, rfl, decide (l = k), ?_, ?_⟩
    · exact congrArg V.bl (dec_kk k l)
    by_cases h : l = k
    · rw [decide_eq_true h]
      refine ⟨_, rfl, a, _, 1, _, rfl, rfl, hsq, atI_nat (j := 1) rfl, c, vs, rfl, .inr hc, fun t ht => ?_⟩
      refine q _ _ _ (Gx.new ht) ht upd_same ?_
      have e : P.parts k (.nd l ps) = ps := if_pos h
      rw [e]
      exact (Tu.new ht).areP hA
    · rw [decide_eq_false h]
      refine ⟨_, rfl, (by show 1 ≤ sizeLine; decide), fun t ht => ?_⟩
      refine q _ _ _ (Gx.new ht) ht upd_same ?_
      have e : P.parts k (.nd l ps) = [.nd l ps] := if_neg h
      rw [e]
      exact AreP.cons ((Tu.new ht).isP hp) AreP.nil
/-! ### need_form -/
abbrev sNeed : Stmt := topS 32
theorem scNeed : FnScope ["many"] ["many"] (defScope sNeed) := ⟨rfl, rfl, rfl, by decide +kernel, rfl, by decide +kernel, by decide +kernel⟩
def spNeed (P0 : Addr) : Sp := fun vs H Q _ => ∃ n : Nat, vs = [.int n] ∧ n ≤ 200 ∧ ∀ H', Gx P0 [] H H' → Q .non H'
theorem ok_need (T : Txt K mg w) (d : Def K mg "need_form" sNeed ["many"]) : FnOk pr w K mg base CX0 1 d.f d.fd ["many"] (spNeed P0) := by
  refine d.fn.ok scNeed (fun vs H Q E h => ?_) (fun cdv A outer s H vs Q E hr h => ?_)
  · obtain ⟨n, rfl, _⟩ := h
    rfl
  obtain ⟨n, rfl, hn, q⟩ := h
  refine ⟨_, pss_one (ps_if (pt_cmpR op_gt (pv 0) (pe_gi T.MOST_FORM) (nomark _)) (pss_one ps_never) pss_nil), ?_⟩
  refine ⟨_, rfl, _, _, rfl, rfl, false, ?_, q H (Gx.refl _ _ _)⟩
  refine congrArg V.bl (decide_eq_false ?_)
  omega
end
end K78
set_option Elab.async false
set_option linter.all false
set_option maxRecDepth 100000
/-! K78, part 14: gathered. -/
namespace K78
open PySem PySem.Spec PyProof.Rows L2 LamX
/-- a good form with paths -/
structure Gd (p : P) : Prop where
  sml : Sml 200 20 p.bare
  ok : F.ok nm p.bare
theorem flat_bare (k : Kd) (ps : List P) : (ps.flatMap (P.parts k)).map P.bare = (ps.map P.bare).flatMap (F.parts k) := by
  induction ps with
  | nil => rfl
  | cons p ps ih => rw [List.flatMap_cons, List.map_append, ih, P.parts_bare, List.map_cons, List.flatMap_cons]
theorem Gd.part {k : Kd} {p q : P} (h : Gd p) (hq : q ∈ P.parts k p) : Gd q := by
  have e : q.bare ∈ F.parts k p.bare := by rw [← P.parts_bare]; exact List.mem_map_of_mem hq
  have z := F.mem_size e
  rw [F.parts_size] at z
  exact ⟨⟨F.parts_pos h.sml.pos _ e, Nat.le_trans z h.sml.few, Nat.le_trans (F.parts_depth _ e) h.sml.low⟩, F.parts_ok h.ok _ e⟩
theorem flat_len (k : Kd) : ∀ {ps : List P}, (∀ p ∈ ps, Gd p) → (ps.flatMap (P.parts k)).length ≤ F.sizes (ps.map P.bare)
  | [], _ => Nat.zero_le _
  | p :: ps, h => by
    have ih := flat_len k fun q hq => h q (List.mem_cons_of_mem _ hq)
    have h1 := F.parts_len (k := k) (h p List.mem_cons_self).sml.pos
    rw [← P.parts_bare, List.length_map] at h1
    rw [List.flatMap_cons, List.length_append, List.map_cons, F.sizes]
    omega
section
variable {pr : Program} {w : World} {K : PySem.W.Frag} {mg : Str → Option Value} {base : Heap} {P0 : Addr}
/-- a def whose code object is known -/
theorem okC {x qual : Str} {st : Stmt} {f : Addr} {fd : FuncData} {N ps : List Str} {k : Nat} {sp : Sp} {c : Addr} (F : Fun K x qual st f fd) (hc : fd.code = .ref c) (S : FnScope N ps (defScope st)) (len : ∀ vs H Q E, sp vs H Q E → vs.length = ps.length)
    (hbody : ∀ (A : Around) (outer : List Env) (s : Shared) (H : Hp) (vs : List V) (Q : VK) (E : XK), Room k (A.deeper (envOfC qual (defScope st) s.heap.objs.size f (.ref c))) → sp vs H Q E →
      ∃ t, PSs (cxOf CX0 pr w K mg base N qual (defScope st) f (.ref c) A outer s H E).nox (defBody st) t ∧ t { nx := fun _ H' => Q .non H', rt := Q } (start N vs) H) : FnOk pr w K mg base CX0 (k + 1) f fd ps sp := by
  obtain ⟨oc, od, kV, doc, pm, an, cdv, ct, osl, rfl, lk, hcd⟩ := F.ex
  have hc : cdv = .ref c := hc
  subst hc
  refine fn_of lk hcd S len fun A outer s H vs Q E hr hsp => ?_
  obtain ⟨t, h, q⟩ := hbody A outer s H vs Q E hr hsp
  exact ⟨t, h.nox, q⟩
theorem pick_forms {H : Hp} : ∀ {es : List (V × F)}, (∀ e ∈ es, ∃ p, IsP K H e.1 p ∧ p.bare = e.2) → ∃ gs : List P, AreP K H (es.map (·.1)) gs ∧ gs.map P.bare = es.map (·.2)
  | [], _ => ⟨[], AreP.nil, rfl⟩
  | e :: es, h => by
    obtain ⟨p, h1, h2⟩ := h e List.mem_cons_self
    obtain ⟨gs, h3, h4⟩ := pick_forms fun x hx => h x (List.mem_cons_of_mem _ hx)
    exact ⟨p :: gs, AreP.cons h1 h3, by rw [List.map_cons, h2, h4, List.map_cons]⟩
theorem AreP.zip {H : Hp} : ∀ {vs : List V} {ps : List P}, AreP K H vs ps → ∀ e ∈ vs.zip (ps.map P.bare), ∃ p, IsP K H e.1 p ∧ p.bare = e.2
  | [], _, _, e, he => by simp at he
  | v :: vs, [], _, e, he => by simp at he
  | v :: vs, p :: ps, h, e, he => by
    rw [List.map_cons, List.zip_cons_cons] at he
    rcases List.mem_cons.mp he with rfl | he
    · exact ⟨p, h.inv.1, rfl⟩
    · exact AreP.zip h.inv.2 e he
theorem AreP.refs {H : Hp} : ∀ {vs : List V} {ps : List P}, AreP K H vs ps → ∀ v ∈ vs, ∃ a, v = .ref a
  | [], _, _, e, he => by simp at he
  | v :: vs, [], h, e, he => by have := h.len; simp at this
  | v :: vs, p :: ps, h, e, he => by
    rcases List.mem_cons.mp he with rfl | he
    · exact isP_ref h.inv.1
    · exact AreP.refs h.inv.2 e he
abbrev sGath : Stmt := topS 31
abbrev nGath : List Str := ["kind", "forms", "parts", "form", "part"]
theorem scGath : FnScope nGath ["kind", "forms"] (defScope sGath) := ⟨rfl, rfl, rfl, by decide +kernel, rfl, by decide +kernel, by decide +kernel⟩
def scLamS : Scope := { kind := .function, names := [(Str.ofString "part", .local), (Str.ofString "bare", .globalImplicit)], isGenerator := false, isCoroutine := false, more := [] }
theorem scLam : FnScope ["part"] ["part"] scLamS := ⟨rfl, rfl, rfl, by decide +kernel, rfl, by decide +kernel, by decide +kernel⟩
/-- the lambda of gathered: its parameters, its body -/
def lamE : Expr := match defBody sGath with
  | [_, .Return (some (.Tuple [_, .Call _ [.Call _ _ [⟨_, e, _⟩] _] _ _] _ _)) _] => e
  | _ => .Name "" ⟨0, 0, 0, 0⟩
def lamP : Arguments := match lamE with
  | .Lambda p _ _ _ => p
  | _ => defArgs sGath
def lamB : Expr := match lamE with
  | .Lambda _ b _ _ => b
  | e => e
abbrev lamO (pm : Value) (c' : Addr) (ctv : Value) : Obj := PySem.W.kla_obj "<lambda>" lamQ lamP lamB scLamS [] pm c' ctv
def spGath (K : PySem.W.Frag) (P0 : Addr) : Sp := fun vs H Q _ => ∃ (k : Kd) (a : Addr) (xs : List V) (ps : List P), vs = [.str k.name, .ref a] ∧ SqL K H a xs ∧ AreP K H xs ps ∧ TabS H P0 lamQ ∧ (∀ p ∈ ps, Gd p) ∧ F.sizes (ps.map P.bare) ≤ 200 ∧
  ∀ H' r gs, Gx P0 [] H H' → IsP K H' r (.nd k gs) → gs.map P.bare = F.srt ((ps.map P.bare).flatMap (F.parts k)) → Q r H'
theorem ok_gath (T : Txt K mg w) (d : Def K mg "gathered" sGath ["kind", "forms"]) (dp : Def K mg "parts_by" sPBy ["kind", "form"]) (db : Def K mg "bare" sBare ["form"]) {c : Addr} (hc : d.fd.code = .ref c) (TB : TabB base mg c P0)
    (Gp : FnOk pr w K mg base CX0 1 dp.f dp.fd ["kind", "form"] (spPBy K P0)) (Gb : FnOk pr w K mg base CX0 20 db.f db.fd ["form"] (spBare K P0 20)) : FnOk pr w K mg base CX0 23 d.f d.fd ["kind", "forms"] (spGath K P0) := by
  refine okC d.fn hc scGath (fun vs H Q E h => ?_) (fun A outer s H vs Q E hr h => ?_)
  · obtain ⟨k, a, xs, ps, rfl, _⟩ := h
    rfl
  obtain ⟨k, a, xs, ps, rfl, hs, hA, hT, hg, hsz, q⟩ := h
  refine ⟨_, pss_cons (ps_setLc2 (i := 2) (own := [("form", 3), ("part", 4)]) (vs1 := [4]) (g := gName 3) (g1 := gName 4) (tt := tYes) (tt1 := tYes) (wi1 := iList K _) rfl scGath.nd rfl rfl (by rfl) (pi_list (pv 1)) (blkOk_by (N := nGath) (sc := defScope sGath) (by decide +kernel)) (by decide)
        (fun _ _ _ _ _ => pg_name (i := 3) scGath.nd rfl (Or.inl rfl)) (fun _ _ _ _ _ => pts_nil)
        (fun _ _ _ _ _ => pi_list (pe_def dp Gp (hr.mono (by decide)) (pa_cons (pv 0) (pa_cons (pv 3) pa_nil))))
        (fun _ _ _ _ _ => pg_name (i := 4) scGath.nd rfl (Or.inl rfl)) (fun _ _ _ _ _ => pts_nil) (fun _ _ _ _ _ => pv 4))
    (pss_one (ps_ret (pe_tup (pa_cons (pv 0) (pa_cons (pe_callTy call_tuple_of rfl T.tuple (by decide +kernel) (pa_cons
      (pe_callBK (cr_sortedKeyF nm_ok hr) rfl T.sorted (by decide +kernel) (pa_cons (pv 2) pa_nil) (pk_cons (pe_lamV TB rfl rfl (by decide +kernel)) pk_nil)) pa_nil)) pa_nil))))), ?_⟩
  have hlen := flat_len k hg
  refine ⟨_, rfl, a, rfl, ⟨_, hs⟩, fun D hD => ?_⟩
  refine it_list (K := K) (xs := xs) (fun i H7 => Gx P0 [] H H7 ∧ ∃ acc, H7 D = some (.lst acc) ∧ AreP K H7 acc ((ps.take i).flatMap (P.parts k)))
    ⟨Gx.new hD, [], upd_same, AreP.nil⟩ (fun i H7 _ h7 => h7.1.seqL (by simp) hs) (fun i x H7 hi h7 => ?_) (fun H7 h7 => ?_)
  · obtain ⟨g7, acc, hD7, hacc⟩ := h7
    obtain ⟨p, ep, hp⟩ := hA.get hi
    refine ⟨rfl, _, rfl, _, rfl, k, p, x, rfl, g7.tu.isP hp, fun H8 D8 xs8 g8 hn8 hx8 hl8 => ?_⟩
    have hD8 := g8.lstA (by simp) hD7
    have hne : D8 ≠ D := fun z => by rw [z, hD7] at hn8; cases hn8
    have hst : (ps.take (i + 1)).flatMap (P.parts k) = (ps.take i).flatMap (P.parts k) ++ P.parts k p := by
      rw [take_snoc ep, List.flatMap_append, List.flatMap_singleton]
    have hle : ((ps.take (i + 1)).flatMap (P.parts k)).length ≤ 200 := by
      have h1 := flat_len k (ps := ps.take (i + 1)) fun q hq => hg q (List.mem_of_mem_take hq)
      have h2 := F.sizes_take_le (ps.map P.bare) (i + 1)
      rw [← List.map_take] at h2
      omega
    rw [hst, List.length_append] at hle
    refine ⟨D8, rfl, ⟨_, SqL.of hx8⟩, ?_⟩
    refine it_list (K := K) (xs := xs8) (fun j H9 => Gx P0 [] H H9 ∧ Tu H8 H9 ∧ H9 D8 = some (.lst xs8) ∧ ∃ acc', H9 D = some (.lst acc') ∧ AreP K H9 acc' ((ps.take i).flatMap (P.parts k) ++ (P.parts k p).take j))
      ⟨g7.trans g8, Tu.refl _, hx8, acc, hD8, by rw [List.take_zero, List.append_nil]; exact g8.tu.areP hacc⟩ (fun j H9 _ h9 => SqL.of h9.2.2.1) (fun j y H9 hj h9 => ?_) (fun H9 h9 => ?_)
    · obtain ⟨g9, t9, hx9, acc', hD9, ha9⟩ := h9
      have hjl : j < xs8.length := (List.getElem?_eq_some_iff.mp hj).1
      have hl9 := ha9.len
      have hl8' := hl8.len
      rw [List.length_append, List.length_take] at hl9
      obtain ⟨q', eq', hq'⟩ := (t9.areP hl8).get hj
      have tt := Tu.lst (o := .lst (acc' ++ [y])) hD9
      refine ⟨rfl, y, rfl, acc', hD9, big_of (by omega), g9.own hD hD9, t9.trans tt, ?_, acc' ++ [y], upd_same, ?_⟩
      · rw [upd_ne hne]
        exact hx9
      · rw [take_snoc eq', ← List.append_assoc]
        exact (tt.areP ha9).snoc (tt.isP hq')
    · obtain ⟨g9, t9, hx9, acc', hD9, ha9⟩ := h9
      refine ⟨g9, acc', hD9, ?_⟩
      rw [hst]
      rw [hl8.len, List.take_of_length_le (Nat.le_refl _)] at ha9
      exact ha9
  · obtain ⟨g7, acc, hD7, hacc⟩ := h7
    rw [hA.len, List.take_of_length_le (Nat.le_refl _)] at hacc
    have hgd : ∀ p ∈ ps.flatMap (P.parts k), Gd p := fun p hp => by
      obtain ⟨p', h1, h2⟩ := List.mem_flatMap.mp hp
      exact (hg p' h1).part h2
    have hbare := flat_bare k ps
    generalize ps.flatMap (P.parts k) = qs at hacc hgd hbare hlen
    rw [← hbare] at q
    refine ⟨_, rfl, _, rfl, g7.tab hT, fun f c' pm ctv H8 eN tu old tab hf hc' => ?_⟩
    have g8 : Gx P0 [] H7 H8 := ⟨fun b o _ e n => eN b o e n, tu, fun _ => tab, old⟩
    have hc8 : ∀ o, upd H8 f o c' = some (CodeO c' lamQ) := fun o => by rw [upd_ne (ne_of_none hc' hf)]; exact hc'
    have g9 := g7.trans (g8.trans (Gx.new (o := FnO f (lamO pm c' ctv)) hf))
    have t9 := g8.tu.trans (Tu.new (o := FnO f (lamO pm c' ctv)) hf)
    have hD9 := (g8.trans (Gx.new (o := FnO f (lamO pm c' ctv)) hf)).lstA (by simp) hD7
    have hacc9 := t9.areP hacc
    refine ⟨D, f, acc, qs.map P.bare, fun H3 => Gx P0 [] H H3 ∧ H3 f = some (FnO f (lamO pm c' ctv)) ∧ H3 c' = some (CodeO c' lamQ), _, rfl, rfl, SqL.of hD9, hacc.refs, ?_, ?_, ?_,
      keyFn_of (q := lamQ) (params := lamP) (body := lamB) (pm := pm) (ctv := ctv) (c' := c') (f := f) (k := 20) scLam (fun us hl => match us, hl with | [_], _ => rfl) (sp := spBare K P0 20) (fun vs H Q h => by obtain ⟨p, v, rfl, _⟩ := h; rfl) (fun A' outer' s' H' vs Q' hr' h => ?_), ⟨g9, upd_same, hc8 _⟩, ?_, ?_⟩
    · rw [List.length_map]
      exact hacc.len.symm
    · refine F.oks_iff.mpr fun f hf => ?_
      obtain ⟨p, hp, rfl⟩ := List.mem_map.mp hf
      exact (hgd p hp).ok
    · refine F.depths_iff.mpr fun f hf => ?_
      obtain ⟨p, hp, rfl⟩ := List.mem_map.mp hf
      exact Nat.le_trans (hgd p hp).sml.low (by decide)
    · obtain ⟨p, v, rfl, h1, h2, h3⟩ := h
      exact ⟨_, pe_def db Gb hr' (pa_cons (pv 0) pa_nil), _, rfl, p, v, rfl, h1, h2, h3⟩
    · intro i x kf H3 hi hk t3 j3
      obtain ⟨g3, f3, c3⟩ := j3
      obtain ⟨p, ep, hp⟩ := hacc9.get hi
      rw [List.getElem?_map, ep] at hk
      obtain rfl : p.bare = kf := Option.some.inj hk
      refine ⟨f3, c3, p, x, rfl, t3.isP hp, (hgd p (List.mem_of_getElem? ep)).sml, fun H4 r g4 hr4 => ⟨⟨g3.trans g4, g4.ext f _ (by simp) f3 fnO_ne, g4.ext c' _ (by simp) c3 codeO_ne⟩, hr4⟩⟩
    · rintro H3 D' zs' ⟨g3, _, _⟩ t3 hn ⟨es, hperm, hmap, rfl⟩
      obtain ⟨gs, hgs, hgb⟩ := pick_forms (K := K) (H := H3) (es := es) fun e he => (t3.areP hacc9).zip e (hperm.mem_iff.mp he)
      refine ⟨D', es.map (·.1), rfl, .inl ⟨SqL.of upd_same, fun t ht => ⟨(by show 2 ≤ sizeLine; decide), fun u hu => ?_⟩⟩⟩
      have tt := ((Tu.new (o := .lst (es.map (·.1))) hn).trans (Tu.new (o := .tup (es.map (·.1))) ht)).trans (Tu.new (o := .tup [.str k.name, .ref t]) hu)
      refine q _ _ gs (((g3.trans (Gx.new hn)).trans (Gx.new ht)).trans (Gx.new hu)) ?_ ?_
      · refine isP_mk_nd (c := t) (vs := es.map (·.1)) (SqT.of upd_same) (SqT.of ?_) (tt.areP hgs)
        rw [upd_ne (ne_of_none upd_same hu), upd_same]
      · rw [hgb, hmap]
end
end K78
set_option Elab.async false
set_option linter.all false
set_option maxRecDepth 100000
/-! K78, part 15: form_in, normal, are_alike. -/
namespace K78
open PySem PySem.Spec PyProof.Rows L2 LamX
section
variable {pg : Program} {w : World} {K : PySem.W.Frag} {mg : Str → Option Value} {base : Heap} {P0 : Addr}
abbrev sForm : Stmt := topS 33
abbrev nForm : List Str := ["word", "path", "kind", "one", "other", "ones", "others", "found", "left", "right"]
theorem scForm : FnScope nForm ["word", "path"] (defScope sForm) := ⟨rfl, rfl, rfl, by decide +kernel, rfl, by decide +kernel, by decide +kernel⟩
structure FOk (wd : W) : Prop where
  ok : wd.ok nm
  low : wd.depth ≤ 8
  few : F.size (norm wd) ≤ 200
theorem FOk.gd {wd : W} (h : FOk wd) {p : P} (e : p.bare = norm wd) : Gd p := by
  have := norm_depth wd
  have := h.low
  exact ⟨by rw [e]; exact ⟨norm_pos wd, h.few, by omega⟩, by rw [e]; exact norm_ok h.ok⟩
theorem FOk.left {k : Kd} {a b : W} (h : FOk (.nd k a b)) : FOk a := by
  have h2 : 1 + max a.depth b.depth ≤ 8 := h.low
  have h3 : F.size (F.comb k (norm a) (norm b)) ≤ 200 := h.few
  have := (comb_mono (k := k) (norm_pos a) (norm_pos b)).1
  exact ⟨h.ok.1, by omega, by omega⟩
theorem FOk.right {k : Kd} {a b : W} (h : FOk (.nd k a b)) : FOk b := by
  have h2 : 1 + max a.depth b.depth ≤ 8 := h.low
  have h3 : F.size (F.comb k (norm a) (norm b)) ≤ 200 := h.few
  have := (comb_mono (k := k) (norm_pos a) (norm_pos b)).2
  exact ⟨h.ok.2, by omega, by omega⟩
theorem spreads (T : Txt K mg w) {k o : Kd} (h : k.over = some o) : KDct K w T.aS k.name (.str o.name) := by
  cases k <;> cases h
  · exact T.spreadB
  · exact T.spreadE
structure SprF (k o : Kd) (p1 p2 : P) : Prop where
  sum : F.size p1.bare + F.size p2.bare ≤ 200
  len : (F.parts o p1.bare).length * (F.parts o p2.bare).length ≤ 200
  gd : ∀ p : P, p.bare ∈ pr k (F.parts o p1.bare) (F.parts o p2.bare) → Gd p
  size : F.sizes (pr k (F.parts o p1.bare) (F.parts o p2.bare)) ≤ 200
  flat : (pr k (F.parts o p1.bare) (F.parts o p2.bare)).flatMap (F.parts o) = pr k (F.parts o p1.bare) (F.parts o p2.bare)
theorem flat_one {o : Kd} : ∀ {l : List F}, (∀ g ∈ l, F.parts o g = [g]) → l.flatMap (F.parts o) = l
  | [], _ => rfl
  | g :: l, h => by rw [List.flatMap_cons, h g List.mem_cons_self, flat_one fun x hx => h x (List.mem_cons_of_mem _ hx)]; rfl
theorem mem_pr {k : Kd} {xs ys : List F} {g : F} (h : g ∈ pr k xs ys) : ∃ l ∈ xs, ∃ r ∈ ys, F.gath k l r = g := by
  unfold pr at h
  simpa [List.mem_flatMap] using h
theorem spread_facts {k o : Kd} (hk : k.over = some o) {p1 p2 : P} (g1 : Gd p1) (g2 : Gd p2) (d1 : F.depth p1.bare ≤ 15) (d2 : F.depth p2.bare ≤ 15)
    (hs : (F.parts o p2.bare).length * F.size p1.bare + (F.parts o p1.bare).length * F.size p2.bare ≤ 200) : SprF k o p1 p2 := by
  have l1 := len_pos (k := o) g1.sml.pos
  have l2 := len_pos (k := o) g2.sml.pos
  have m1 := Nat.mul_le_mul_right (F.size p1.bare) l2
  have m2 := Nat.mul_le_mul_right (F.size p2.bare) l1
  have hsz : F.sizes (pr k (F.parts o p1.bare) (F.parts o p2.bare)) ≤ 200 := by
    rw [← prod_eq, F.prod_size]
    exact hs
  refine ⟨by omega, ?_, fun p hp => ?_, hsz, flat_one fun g hg => ?_⟩
  · have z := Nat.mul_le_mul_left (F.parts o p1.bare).length (F.parts_len (k := o) g2.sml.pos)
    omega
  · have z := F.mem_size hp
    obtain ⟨l, hl, r, hr, e⟩ := mem_pr hp
    have a1 := F.parts_depth l hl
    have a2 := F.parts_depth r hr
    have a3 := F.gath_depth k l r
    rw [e] at a3
    refine ⟨⟨?_, by omega, by omega⟩, ?_⟩
    · rw [← e]
      exact F.gath_pos (F.parts_pos g1.sml.pos l hl) (F.parts_pos g2.sml.pos r hr)
    · rw [← e]
      exact F.gath_ok (F.parts_ok g1.ok l hl) (F.parts_ok g2.ok r hr)
  · obtain ⟨l, hl, r, hr, rfl⟩ := mem_pr hg
    unfold F.gath
    rw [parts_nd_other (over_ne hk)]
def spForm (K : PySem.W.Frag) (P0 : Addr) (n : Nat) : Sp := fun vs H Q _ => ∃ (wd : W) (v : V) (a : Addr) (path : List Int), vs = [v, .ref a] ∧ IsW K H v wd ∧ SqT K H a (path.map V.int) ∧ path.length + n ≤ 100 ∧ wd.depth ≤ n ∧ FOk wd ∧ TabS H P0 lamQ ∧
  ∀ H' r p, Gx P0 [] H H' → IsP K H' r p → p.bare = norm wd → Q r H'
set_option maxHeartbeats 4000000 in
theorem form_step (T : Txt K mg w) (d : Def K mg "form_in" sForm ["word", "path"]) (dl : Def K mg "form_letters" sFLet ["form"]) (dn : Def K mg "need_form" sNeed ["many"]) (dg : Def K mg "gathered" sGath ["kind", "forms"]) (dp : Def K mg "parts_by" sPBy ["kind", "form"])
    (Gl : FnOk pg w K mg base CX0 20 dl.f dl.fd ["form"] (spFLet K P0 20)) (Gn : FnOk pg w K mg base CX0 1 dn.f dn.fd ["many"] (spNeed P0)) (Gg : FnOk pg w K mg base CX0 23 dg.f dg.fd ["kind", "forms"] (spGath K P0)) (Gp : FnOk pg w K mg base CX0 1 dp.f dp.fd ["kind", "form"] (spPBy K P0))
    (n : Nat) (G : FnOk pg w K mg base CX0 (23 + n) d.f d.fd ["word", "path"] (spForm K P0 n)) : FnOk pg w K mg base CX0 (23 + n + 1) d.f d.fd ["word", "path"] (spForm K P0 (n + 1)) := by
  refine d.fn.ok scForm (fun vs H Q E h => ?_) (fun cdv A outer s H vs Q E hr h => ?_)
  · obtain ⟨wd, v, a, path, rfl, _⟩ := h
    rfl
  have h1 : Room 1 (A.deeper (envOfC "form_in" (defScope sForm) s.heap.objs.size d.f cdv)) := hr.mono (by omega)
  have h20 : Room 20 (A.deeper (envOfC "form_in" (defScope sForm) s.heap.objs.size d.f cdv)) := hr.mono (by omega)
  have h23 : Room 23 (A.deeper (envOfC "form_in" (defScope sForm) s.heap.objs.size d.f cdv)) := hr.mono (by omega)
  obtain ⟨wd, v, a, path, rfl, hw, ha, hpl, hd, ho, hT, q⟩ := h
  refine ⟨_, pss_cons (ps_if (pt_cmpR op_eq (pe_ix ix_tup (pv 0) pe_int (fun _ _ => rfl)) (pe_gs T.LETTER) (nomark _)) (pss_one (ps_ret (pe_tup (StX.pa_star (pv 0) (pa_cons (pv 1) pa_nil))))) pss_nil)
    (pss_cons (ps_asg (pe_tup (pa_cons (pe_ix ix_tup (pv 0) pe_int (fun _ _ => rfl)) (pa_cons (pe_def d G hr (pa_cons (pe_ix ix_tup (pv 0) pe_int (fun _ _ => rfl)) (pa_cons (pe_tup (StX.pa_star (pv 1) (pa_cons pe_int pa_nil))) pa_nil)))
        (pa_cons (pe_def d G hr (pa_cons (pe_ix ix_tup (pv 0) pe_int (fun _ _ => rfl)) (pa_cons (pe_tup (StX.pa_star (pv 1) (pa_cons pe_int pa_nil))) pa_nil))) pa_nil))))
        (pg_tup rfl (pgs_cons (pg_name (i := 2) scForm.nd rfl (Or.inr rfl)) (pgs_cons (pg_name (i := 3) scForm.nd rfl (Or.inl rfl)) (pgs_cons (pg_name (i := 4) scForm.nd rfl (Or.inl rfl)) pgs_nil)))))
    (pss_cons (ps_if (pt_cmpR op_in_seq (pv 2) (pe_gr T.CHOICES) rfl)
        (pss_cons (ps_expr (pe_def dn Gn h1 (pa_cons (pe_op op_add (pe_callB call_len_seq rfl T.len PySem.boot_len (pa_cons (pe_def dl Gl h20 (pa_cons (pv 3) pa_nil)) pa_nil)) (pe_callB call_len_seq rfl T.len PySem.boot_len (pa_cons (pe_def dl Gl h20 (pa_cons (pv 4) pa_nil)) pa_nil))) pa_nil)))
        (pss_one (ps_ret (pe_def dg Gg h23 (pa_cons (pv 2) (pa_cons (pe_lst (pa_cons (pv 3) (pa_cons (pv 4) pa_nil))) pa_nil)))))) pss_nil)
    (pss_cons (ps_asg (pe_tup (pa_cons (pe_def dp Gp h1 (pa_cons (pe_ix ix_kdict (pe_gr T.SPREADS) (pv 2) (fun _ _ => rfl)) (pa_cons (pv 3) pa_nil))) (pa_cons (pe_def dp Gp h1 (pa_cons (pe_ix ix_kdict (pe_gr T.SPREADS) (pv 2) (fun _ _ => rfl)) (pa_cons (pv 4) pa_nil))) pa_nil)))
        (pg_tup rfl (pgs_cons (pg_name (i := 5) scForm.nd rfl (Or.inl rfl)) (pgs_cons (pg_name (i := 6) scForm.nd rfl (Or.inr rfl)) pgs_nil))))
    (pss_cons (ps_expr (pe_def dn Gn h1 (pa_cons (pe_op op_add
        (pe_op op_mul (pe_callB call_len_seq rfl T.len PySem.boot_len (pa_cons (pv 6) pa_nil)) (pe_callB call_len_seq rfl T.len PySem.boot_len (pa_cons (pe_def dl Gl h20 (pa_cons (pv 3) pa_nil)) pa_nil)))
        (pe_op op_mul (pe_callB call_len_seq rfl T.len PySem.boot_len (pa_cons (pv 5) pa_nil)) (pe_callB call_len_seq rfl T.len PySem.boot_len (pa_cons (pe_def dl Gl h20 (pa_cons (pv 4) pa_nil)) pa_nil)))) pa_nil)))
    (pss_cons (ps_setLc2 (i := 7) (own := [("left", 8), ("right", 9)]) (vs1 := [9]) (g := gName 8) (g1 := gName 9) (tt := tYes) (tt1 := tYes) (wi1 := iList K _) rfl scForm.nd rfl rfl (by rfl) (pi_list (pv 5)) (blkOk_by (N := nForm) (sc := defScope sForm) (by decide +kernel)) (by decide)
        (fun _ _ _ _ _ => pg_name (i := 8) scForm.nd rfl (Or.inl rfl)) (fun _ _ _ _ _ => pts_nil)
        (fun _ _ _ _ _ => pi_list (pv 6))
        (fun _ _ _ _ _ => pg_name (i := 9) scForm.nd rfl (Or.inl rfl)) (fun _ _ _ _ _ => pts_nil)
        (fun _ _ _ _ _ => pe_def dg Gg h23 (pa_cons (pv 2) (pa_cons (pe_lst (pa_cons (pv 8) (pa_cons (pv 9) pa_nil))) pa_nil))))
    (pss_one (ps_ret (pe_ifExp (pt_cmpR op_eq (pe_callB call_len_seq rfl T.len PySem.boot_len (pa_cons (pv 7) pa_nil)) pe_int (nomark _)) (pe_ix ix_list (pv 7) pe_int (fun _ _ => rfl))
        (pe_def dg Gg h23 (pa_cons (pe_ix ix_kdict (pe_gr T.SPREADS) (pv 2) (fun _ _ => rfl)) (pa_cons (pv 7) pa_nil))))))))))), ?_⟩
  cases wd with
  | lt nme i =>
    obtain ⟨b, rfl, hs⟩ := isW_lt hw
    refine ⟨_, rfl, b, _, 0, _, rfl, rfl, hs, atI_nat (j := 0) rfl, rfl, true, rfl, ?_⟩
    refine ⟨_, rfl, b, _, rfl, .inl hs, _, rfl, (by show 4 ≤ sizeLine; decide), fun t ht => ?_⟩
    refine q _ _ (.lt nme i path) (Gx.new ht) ?_ (P.bare_lt _ _ _)
    exact isP_mk_lt (SqT.of upd_same) ((Tu.new ht).seq ha)
  | nd k wa wb =>
    obtain ⟨b, v1, v2, rfl, hs, hw1, hw2⟩ := isW_nd hw
    have hd' : 1 + max wa.depth wb.depth ≤ n + 1 := hd
    refine ⟨_, rfl, b, _, 0, _, rfl, rfl, hs, atI_nat (j := 0) rfl, rfl, false, ?_, ?_⟩
    · rw [dec_kd]
    have size_ok : ∀ j : Int, (path.map V.int ++ [V.int j]).length ≤ sizeLine := fun j => by
      rw [List.length_append, List.length_map]
      exact Nat.le_of_lt (big_of (by show path.length + 1 ≤ _; omega))
    refine ⟨_, rfl, b, _, 0, _, rfl, rfl, hs, atI_nat (j := 0) rfl, ?_⟩
    -- one
    refine ⟨_, rfl, b, _, 1, _, rfl, rfl, hs, atI_nat (j := 1) rfl, _, rfl, a, _, rfl, .inl ha, size_ok 0, fun t ht => ?_⟩
    have g0 : Gx P0 [] H (upd H t (.tup (path.map V.int ++ [V.int 0]))) := Gx.new ht
    refine ⟨wa, v1, t, path ++ [0], rfl, g0.tu.isW hw1, SqT.of (by rw [List.map_append]; exact upd_same), ?_, by omega, ho.left, g0.tab hT, fun H1 r1 p1 g1 hp1 e1 => ?_⟩
    · rw [List.length_append, List.length_singleton]
      omega
    have g1 := g0.trans g1
    -- other
    refine ⟨_, rfl, b, _, 2, _, rfl, rfl, g1.tu.seq hs, atI_nat (j := 2) rfl, _, rfl, a, _, rfl, .inl (g1.tu.seq ha), size_ok 1, fun t2 ht2 => ?_⟩
    have g2 : Gx P0 [] H1 (upd H1 t2 (.tup (path.map V.int ++ [V.int 1]))) := Gx.new ht2
    refine ⟨wb, v2, t2, path ++ [1], rfl, (g1.trans g2).tu.isW hw2, SqT.of (by rw [List.map_append]; exact upd_same), ?_, by omega, ho.right, (g1.trans g2).tab hT, fun H2 r2 p2 g3 hp2 e2 => ?_⟩
    · rw [List.length_append, List.length_singleton]
      omega
    have g2 := (g1.trans g2).trans g3
    have hp1 := (Gx.trans (Gx.new (P := P0) (ex := []) ht2) g3).tu.isP hp1
    clear g3 g1 g0
    refine ⟨(by show 3 ≤ sizeLine; decide), fun t3 ht3 => ?_⟩
    have gt : Gx P0 [] H2 (upd H2 t3 (.tup [.str k.name, r1, r2])) := Gx.new ht3
    have hT3 : upd H2 t3 (.tup [.str k.name, r1, r2]) t3 = some (.tup [.str k.name, r1, r2]) := upd_same
    have hp1 := gt.tu.isP hp1
    have hp2 := gt.tu.isP hp2
    have g3 := g2.trans gt
    generalize upd H2 t3 (.tup [.str k.name, r1, r2]) = H3 at hT3 hp1 hp2 g3
    have gd1 := ho.left.gd e1
    have gd2 := ho.right.gd e2
    have hsz : F.size (F.comb k (norm wa) (norm wb)) ≤ 200 := ho.few
    rw [← e1, ← e2] at hsz
    have q : ∀ (H' : Hp) (r : V) (p : P), Gx P0 [] H H' → IsP K H' r p → p.bare = F.comb k p1.bare p2.bare → Q r H' := fun H' r p g hp e => q H' r p g hp (by rw [e, e1, e2]; rfl)
    refine ⟨t3, _, rfl, SqT.of hT3, rfl, _, _, rfl, _, _, rfl, _, _, rfl, rfl, ?_⟩
    refine ⟨_, rfl, T.aC, _, rfl, .inr (T.choices _), rfl, rfl, decide (k.over = none), ?_, ?_⟩
    · rw [if_neg Bool.false_ne_true, in_mine]
    cases hk : k.over with
    | none =>
      rw [decide_eq_true rfl]
      rw [F.comb_size_choice hk] at hsz
      refine ⟨_, rfl, p1, r1, rfl, hp1, gd1.sml, fun H4 D4 xs4 g4 hn4 hx4 hl4 => ?_⟩
      refine ⟨D4, xs4, rfl, .inl (SqL.of hx4), ?_⟩
      refine ⟨_, rfl, p2, r2, rfl, g4.tu.isP hp2, gd2.sml, fun H5 D5 xs5 g5 hn5 hx5 hl5 => ?_⟩
      refine ⟨D5, xs5, rfl, .inl (SqL.of hx5), ?_⟩
      refine ⟨_, _, rfl, rfl, xs4.length + xs5.length, rfl, by omega, fun H6 g6 => ?_⟩
      have gg := (g4.trans g5).trans g6
      refine ⟨_, rfl, _, rfl, _, rfl, (by show 2 ≤ sizeLine; decide), fun t6 ht6 => ?_⟩
      have g7 : Gx P0 [] H6 (upd H6 t6 (.lst [r1, r2])) := Gx.new ht6
      have ga := gg.trans g7
      refine ⟨k, t6, [r1, r2], [p1, p2], rfl, SqL.of upd_same, AreP.cons (ga.tu.isP hp1) (AreP.cons (ga.tu.isP hp2) AreP.nil), (g3.trans ga).tab hT, fun p hp => ?_, ?_, fun H8 r gs g8 hr8 e8 => ?_⟩
      · rcases List.mem_cons.mp hp with rfl | hp
        · exact gd1
        · rw [List.mem_singleton.mp hp]
          exact gd2
      · show F.size p1.bare + (F.size p2.bare + 0) ≤ 200
        omega
      · refine q H8 r _ ((g3.trans ga).trans g8) hr8 ?_
        rw [P.bare_nd, e8, comb_none hk]
        show F.nd k (F.srt (F.parts k p1.bare ++ (F.parts k p2.bare ++ []))) = F.nd k (F.srt (F.parts k p1.bare ++ F.parts k p2.bare))
        rw [List.append_nil]
    | some o =>
      rw [decide_eq_false (fun z => nomatch z)]
      rw [F.comb_size_spread hk] at hsz
      have hd1 : F.depth p1.bare ≤ 15 := by have z1 := norm_depth wa; have z2 := ho.left.low; rw [e1]; omega
      have hd2 : F.depth p2.bare ≤ 15 := by have z1 := norm_depth wb; have z2 := ho.right.low; rw [e2]; omega
      have gf := spread_facts (k := k) (o := o) hk gd1 gd2 hd1 hd2 hsz
      refine ⟨_, rfl, T.aS, _, _, rfl, rfl, spreads T hk, _, rfl, o, p1, r1, rfl, hp1, fun H4 D4 xs4 g4 hn4 hx4 hA4 => ?_⟩
      refine ⟨_, rfl, T.aS, _, _, rfl, rfl, spreads T hk, _, rfl, o, p2, r2, rfl, g4.tu.isP hp2, fun H5 D5 xs5 g5 hn5 hx5 hA5 => ?_⟩
      have hx4 := g5.lstA (by simp) hx4
      have hA4 := g5.tu.areP hA4
      refine ⟨(by show 2 ≤ sizeLine; decide), fun t6 ht6 => ?_⟩
      have gt6 : Gx P0 [] H5 (upd H5 t6 (.tup [.ref D4, .ref D5])) := Gx.new ht6
      have g6 := (g4.trans g5).trans gt6
      have hx4 := gt6.lstA (by simp) hx4
      have hx5 := gt6.lstA (by simp) hx5
      have hA4 := gt6.tu.areP hA4
      have hA5 := gt6.tu.areP hA5
      have hT6 : upd H5 t6 (.tup [.ref D4, .ref D5]) t6 = some (.tup [.ref D4, .ref D5]) := upd_same
      generalize upd H5 t6 (.tup [.ref D4, .ref D5]) = H6 at g6 hx4 hx5 hA4 hA5 hT6
      refine ⟨t6, _, rfl, SqT.of hT6, rfl, _, _, rfl, _, _, rfl, rfl, ?_⟩
      refine ⟨_, rfl, D5, xs5, rfl, .inl (SqL.of hx5), ?_⟩
      refine ⟨_, rfl, p1, r1, rfl, g6.tu.isP hp1, gd1.sml, fun H7 D7 xs7 g7 hn7 hx7 hl7 => ?_⟩
      have l4 : xs4.length = (F.parts o p1.bare).length := by rw [hA4.len, ← P.parts_bare, List.length_map]
      have l5 : xs5.length = (F.parts o p2.bare).length := by rw [hA5.len, ← P.parts_bare, List.length_map]
      have q1 := gd1.sml.few
      have q2 := gd2.sml.few
      have b5 : xs5.length ≤ 200 := by have z1 := F.parts_len (k := o) gd2.sml.pos; omega
      refine ⟨D7, xs7, rfl, .inl (SqL.of hx7), _, _, rfl, rfl, .inl ⟨by omega, by omega⟩, ?_⟩
      have hx4 := g7.lstA (by simp) hx4
      have hx5 := g7.lstA (by simp) hx5
      refine ⟨_, rfl, D4, xs4, rfl, .inl (SqL.of hx4), ?_⟩
      have g7' := g6.trans g7
      refine ⟨_, rfl, p2, r2, rfl, g7'.tu.isP hp2, gd2.sml, fun H8 D8 xs8 g8 hn8 hx8 hl8 => ?_⟩
      have hpos1 := len_pos (k := o) gd2.sml.pos
      have hpos2 := len_pos (k := o) gd1.sml.pos
      have b4 : xs4.length ≤ 200 := by have z1 := F.parts_len (k := o) gd1.sml.pos; omega
      refine ⟨D8, xs8, rfl, .inl (SqL.of hx8), _, _, rfl, rfl, .inl ⟨by omega, by omega⟩, ?_⟩
      refine ⟨_, _, rfl, rfl, xs5.length * xs7.length + xs4.length * xs8.length, rfl, (by rw [l5, hl7, l4, hl8]; exact hsz), fun H9 g9 => ?_⟩
      have hx4 := (g8.trans g9).lstA (by simp) hx4
      have hx5 := (g8.trans g9).lstA (by simp) hx5
      have hA4 := ((g7.trans g8).trans g9).tu.areP hA4
      have hA5 := ((g7.trans g8).trans g9).tu.areP hA5
      have g9 := g3.trans ((g7'.trans g8).trans g9)
      clear g8 g7 g7' g6 hx7 hx8
      -- found
      refine ⟨_, rfl, D4, rfl, ⟨_, SqL.of hx4⟩, fun D hD => ?_⟩
      have n4 : D ≠ D4 := fun z => by rw [z, hx4] at hD; cases hD
      have n5 : D ≠ D5 := fun z => by rw [z, hx5] at hD; cases hD
      have hDH : H D = none := g9.old _ hD
      refine it_list (K := K) (xs := xs4) (fun i H10 => Gx P0 [] H H10 ∧ Tu H9 H10 ∧ H10 D4 = some (.lst xs4) ∧ H10 D5 = some (.lst xs5) ∧ ∃ acc qs, H10 D = some (.lst acc) ∧ AreP K H10 acc qs ∧ qs.map P.bare = pr k ((F.parts o p1.bare).take i) (F.parts o p2.bare))
        ⟨g9.trans (Gx.new hD), Tu.new hD, by rw [upd_ne n4.symm]; exact hx4, by rw [upd_ne n5.symm]; exact hx5, [], [], upd_same, AreP.nil, rfl⟩ (fun i H10 _ h10 => SqL.of h10.2.2.1) (fun i x H10 hi h10 => ?_) (fun H10 h10 => ?_)
      · obtain ⟨g10, t10, a4, a5, acc, qs, hD10, hacc, hqs⟩ := h10
        obtain ⟨pl, epl, hpl'⟩ := hA4.get hi
        have epb : (F.parts o p1.bare)[i]? = some pl.bare := by rw [← P.parts_bare, List.getElem?_map, epl]; rfl
        refine ⟨rfl, _, rfl, D5, rfl, ⟨_, SqL.of a5⟩, ?_⟩
        have hil : i < (F.parts o p1.bare).length := (List.getElem?_eq_some_iff.mp epb).1
        refine it_list (K := K) (xs := xs5) (fun j H11 => Gx P0 [] H H11 ∧ Tu H9 H11 ∧ H11 D4 = some (.lst xs4) ∧ H11 D5 = some (.lst xs5) ∧ ∃ acc qs, H11 D = some (.lst acc) ∧ AreP K H11 acc qs ∧ qs.map P.bare = pr k ((F.parts o p1.bare).take i) (F.parts o p2.bare) ++ ((F.parts o p2.bare).take j).map fun r => F.gath k pl.bare r)
          ⟨g10, t10, a4, a5, acc, qs, hD10, hacc, by rw [hqs, List.take_zero, List.map_nil, List.append_nil]⟩ (fun j H11 _ h11 => SqL.of h11.2.2.2.1) (fun j y H11 hj h11 => ?_) (fun H11 h11 => ?_)
        · obtain ⟨g11, t11, a4, a5, acc, qs, hD11, hacc, hqs⟩ := h11
          obtain ⟨py, epy, hpy⟩ := hA5.get hj
          have epyb : (F.parts o p2.bare)[j]? = some py.bare := by rw [← P.parts_bare, List.getElem?_map, epy]; rfl
          refine ⟨rfl, _, rfl, _, rfl, _, rfl, (by show 2 ≤ sizeLine; decide), fun t12 ht12 => ?_⟩
          have g12 : Gx P0 [] H11 (upd H11 t12 (.lst [x, y])) := Gx.new ht12
          have t12' := t11.trans g12.tu
          have m1 := gd1.part (List.mem_of_getElem? epl)
          have m2 := gd2.part (List.mem_of_getElem? epy)
          refine ⟨k, t12, [x, y], [pl, py], rfl, SqL.of upd_same, AreP.cons (t12'.isP hpl') (AreP.cons (t12'.isP hpy) AreP.nil), (g11.trans g12).tab hT, fun p hp => ?_, ?_, fun H13 r gs g13 hr13 e13 => ?_⟩
          · rcases List.mem_cons.mp hp with rfl | hp
            · exact m1
            · rw [List.mem_singleton.mp hp]
              exact m2
          · have z1 := F.mem_size (List.mem_of_getElem? epb)
            have z2 := F.mem_size (List.mem_of_getElem? epyb)
            rw [F.parts_size] at z1 z2
            show F.size pl.bare + (F.size py.bare + 0) ≤ 200
            have := gf.sum
            omega
          · have g13' := g12.trans g13
            have hD13 := g13'.lstA (by simp) hD11
            have tt := Tu.lst (o := .lst (acc ++ [r])) hD13
            have er : (P.nd k gs).bare = F.gath k pl.bare py.bare := by
              rw [P.bare_nd, e13]
              show F.nd k (F.srt (F.parts k pl.bare ++ (F.parts k py.bare ++ []))) = F.nd k (F.srt (F.parts k pl.bare ++ F.parts k py.bare))
              rw [List.append_nil]
            refine ⟨acc, hD13, ?_, (g11.trans g13').own hDH hD13, (t11.trans g13'.tu).trans tt, ?_, ?_, acc ++ [r], qs ++ [.nd k gs], upd_same, ((g13'.tu.trans tt).areP hacc).snoc (tt.isP hr13), ?_⟩
            · have z := congrArg List.length hqs
              rw [List.length_map, List.length_append, pr_len, List.length_map, List.length_take, List.length_take] at z
              have hjl : j < (F.parts o p2.bare).length := (List.getElem?_eq_some_iff.mp epyb).1
              rw [Nat.min_eq_left (Nat.le_of_lt hil), Nat.min_eq_left (Nat.le_of_lt hjl)] at z
              have z2 := Nat.mul_le_mul_right (F.parts o p2.bare).length hil
              rw [Nat.succ_mul] at z2
              have z3 := gf.len
              rw [hacc.len, z]
              exact big_of (by omega)
            · rw [upd_ne n4.symm]
              exact g13'.lstA (by simp) a4
            · rw [upd_ne n5.symm]
              exact g13'.lstA (by simp) a5
            · rw [List.map_append, hqs, take_snoc epyb, List.map_append, List.append_assoc, List.map_cons, er]
              rfl
        · obtain ⟨g11, t11, a4, a5, acc, qs, hD11, hacc, hqs⟩ := h11
          refine ⟨g11, t11, a4, a5, acc, qs, hD11, hacc, ?_⟩
          rw [hqs, l5, List.take_of_length_le (Nat.le_refl _), take_snoc epb, pr_append]
          show _ = _ ++ pr k [pl.bare] (F.parts o p2.bare)
          unfold pr
          rw [List.flatMap_singleton]
      · obtain ⟨g10, t10, a4, a5, acc, qs, hD10, hacc, hqs⟩ := h10
        rw [l4, List.take_of_length_le (Nat.le_refl _)] at hqs
        refine ⟨_, rfl, D, acc, rfl, .inl (SqL.of hD10), rfl, decide (acc.length = 1), ?_, ?_⟩
        · refine congrArg V.bl ?_
          by_cases h : acc.length = 1
          · rw [decide_eq_true h]
            exact decide_eq_true (by rw [h]; rfl)
          · rw [decide_eq_false h]
            refine decide_eq_false fun z => h ?_
            injection z with z
            omega
        have hqsl := hacc.len
        by_cases h : acc.length = 1
        · rw [decide_eq_true h]
          rw [h] at hqsl
          match acc, qs, h, hqsl, hacc, hqs, hD10 with
          | [v0], [q0], _, _, hacc, hqs, hD10 =>
            refine ⟨_, rfl, D, _, 0, _, rfl, rfl, SqL.of hD10, atI_nat (j := 0) rfl, ?_⟩
            refine q H10 v0 q0 g10 hacc.inv.1 ?_
            rw [comb_some hk, ← hqs]
            rfl
        · rw [decide_eq_false h]
          refine ⟨_, rfl, T.aS, _, _, rfl, rfl, spreads T hk, _, rfl, o, D, acc, qs, rfl, SqL.of hD10, hacc, g10.tab hT, fun p hp => ?_, ?_, fun H11 r gs g11 hr11 e11 => ?_⟩
          · refine gf.gd p ?_
            rw [← hqs]
            exact List.mem_map_of_mem hp
          · rw [hqs]
            exact gf.size
          · refine q H11 r _ (g10.trans g11) hr11 ?_
            rw [P.bare_nd, e11, comb_some hk, hqs, gf.flat, F.mk_many]
            rw [← hqs, List.length_map, ← hqsl]
            exact h
theorem ok_form (T : Txt K mg w) (d : Def K mg "form_in" sForm ["word", "path"]) (dl : Def K mg "form_letters" sFLet ["form"]) (dn : Def K mg "need_form" sNeed ["many"]) (dg : Def K mg "gathered" sGath ["kind", "forms"]) (dp : Def K mg "parts_by" sPBy ["kind", "form"])
    (Gl : FnOk pg w K mg base CX0 20 dl.f dl.fd ["form"] (spFLet K P0 20)) (Gn : FnOk pg w K mg base CX0 1 dn.f dn.fd ["many"] (spNeed P0)) (Gg : FnOk pg w K mg base CX0 23 dg.f dg.fd ["kind", "forms"] (spGath K P0)) (Gp : FnOk pg w K mg base CX0 1 dp.f dp.fd ["kind", "form"] (spPBy K P0)) :
    ∀ n : Nat, FnOk pg w K mg base CX0 (23 + n) d.f d.fd ["word", "path"] (spForm K P0 n)
  | 0 => fn_none fun vs H Q E h => by
    obtain ⟨wd, v, a, path, _, _, _, _, hd, _⟩ := h
    have := wd.depth_pos
    omega
  | n + 1 => form_step T d dl dn dg dp Gl Gn Gg Gp n (ok_form T d dl dn dg dp Gl Gn Gg Gp n)
end
end K78
set_option Elab.async false
set_option linter.all false
set_option maxRecDepth 100000
/-! K78, part 16: normal, are_alike. -/
namespace K78
open PySem PySem.Spec PyProof.Rows L2 LamX
/-- what normal and are_alike take -/
structure LOk (wd : W) : Prop where
  wok : WOk wd
  few : F.size (norm wd) ≤ 200
theorem LOk.form {wd : W} (h : LOk wd) : FOk wd := ⟨h.wok.ok, h.wok.low, h.few⟩
theorem lok_of {wd : W} (ho : wd.ok nm) (h : Let wd) : LOk wd := by
  obtain ⟨h1, h2, h3⟩ := h
  exact ⟨⟨ho, by omega, by omega⟩, by omega⟩
theorem LOk.shaped {wd : W} (h : LOk wd) : SeqAt.shaped (F.data (norm wd)) = true := by
  have h1 := norm_depth wd
  have h2 := h.wok.low
  exact shapedF (norm_ok h.wok.ok) (by omega)
section
variable {pg : Program} {w : World} {K : PySem.W.Frag} {mg : Str → Option Value} {base : Heap} {P0 : Addr}
abbrev sNormal : Stmt := topS 35
theorem scNormal : FnScope ["word"] ["word"] (defScope sNormal) := ⟨rfl, rfl, rfl, by decide +kernel, rfl, by decide +kernel, by decide +kernel⟩
def spNormal (K : PySem.W.Frag) (P0 : Addr) : Sp := fun vs H Q _ => ∃ (wd : W) (v : V), vs = [v] ∧ IsW K H v wd ∧ LOk wd ∧ TabS H P0 lamQ ∧ ∀ H' r, Gx P0 [] H H' → IsF K H' r (norm wd) → Q r H'
theorem ok_normal (d : Def K mg "normal" sNormal ["word"]) (dr : Def K mg "require_word" sReq ["value"]) (df : Def K mg "form_in" sForm ["word", "path"]) (db : Def K mg "bare" sBare ["form"])
    (Gr : FnOk pg w K mg base CX0 31 dr.f dr.fd ["value"] (spReq K P0)) (Gf : FnOk pg w K mg base CX0 31 df.f df.fd ["word", "path"] (spForm K P0 8)) (Gb : FnOk pg w K mg base CX0 31 db.f db.fd ["form"] (spBare K P0 20)) :
    FnOk pg w K mg base CX0 32 d.f d.fd ["word"] (spNormal K P0) := by
  refine d.fn.ok scNormal (fun vs H Q E h => ?_) (fun cdv A outer s H vs Q E hr h => ?_)
  · obtain ⟨wd, v, rfl, _⟩ := h
    rfl
  obtain ⟨wd, v, rfl, hw, o, hT, q⟩ := h
  refine ⟨_, pss_cons (ps_expr (pe_def dr Gr hr (pa_cons (pv 0) pa_nil))) (pss_one (ps_ret (pe_def db Gb hr (pa_cons (pe_def df Gf hr (pa_cons (pv 0) (pa_cons (pe_tup pa_nil) pa_nil))) pa_nil)))), ?_⟩
  refine ⟨_, rfl, wd, v, rfl, hw, o.wok.ok, o.wok.few, o.wok.low, fun H1 g1 => ?_⟩
  refine ⟨_, rfl, (by show 0 ≤ sizeLine; exact Nat.zero_le _), fun t ht => ?_⟩
  have g2 := g1.trans (Gx.new (o := .tup []) ht)
  refine ⟨wd, v, t, [], rfl, g2.tu.isW hw, SqT.of upd_same, by decide, o.wok.low, o.form, g2.tab hT, fun H3 r p g3 hp e => ?_⟩
  refine ⟨p, r, rfl, hp, (o.form.gd e).sml, fun H4 r4 g4 h4 => ?_⟩
  rw [e] at h4
  exact q H4 r4 ((g2.trans g3).trans g4) h4
abbrev sAlike : Stmt := topS 36
theorem scAlike : FnScope ["one", "other"] ["one", "other"] (defScope sAlike) := ⟨rfl, rfl, rfl, by decide +kernel, rfl, by decide +kernel, by decide +kernel⟩
def spAlike (K : PySem.W.Frag) (P0 : Addr) : Sp := fun vs H Q _ => ∃ (wd wd2 : W) (v v2 : V), vs = [v, v2] ∧ IsW K H v wd ∧ IsW K H v2 wd2 ∧ LOk wd ∧ LOk wd2 ∧ TabS H P0 lamQ ∧ ∀ H', Gx P0 [] H H' → Q (.bl (decide (norm wd = norm wd2))) H'
theorem ok_alike (d : Def K mg "are_alike" sAlike ["one", "other"]) (dr : Def K mg "require_two_words" sReq2 ["one", "other"]) (df : Def K mg "form_in" sForm ["word", "path"]) (db : Def K mg "bare" sBare ["form"])
    (Gr : FnOk pg w K mg base CX0 31 dr.f dr.fd ["one", "other"] (spReq2 K P0)) (Gf : FnOk pg w K mg base CX0 31 df.f df.fd ["word", "path"] (spForm K P0 8)) (Gb : FnOk pg w K mg base CX0 31 db.f db.fd ["form"] (spBare K P0 20)) :
    FnOk pg w K mg base CX0 32 d.f d.fd ["one", "other"] (spAlike K P0) := by
  refine d.fn.ok scAlike (fun vs H Q E h => ?_) (fun cdv A outer s H vs Q E hr h => ?_)
  · obtain ⟨wd, wd2, v, v2, rfl, _⟩ := h
    rfl
  obtain ⟨wd, wd2, v, v2, rfl, hw, hw2, o, o2, hT, q⟩ := h
  refine ⟨_, pss_cons (ps_expr (pe_def dr Gr hr (pa_cons (pv 0) (pa_cons (pv 1) pa_nil)))) (pss_one (ps_ret (pe_cmpR (op_eqD hr.units) (pe_def db Gb hr (pa_cons (pe_def df Gf hr (pa_cons (pv 0) (pa_cons (pe_tup pa_nil) pa_nil))) pa_nil))
    (pe_def db Gb hr (pa_cons (pe_def df Gf hr (pa_cons (pv 1) (pa_cons (pe_tup pa_nil) pa_nil))) pa_nil)) rfl))), ?_⟩
  refine ⟨_, rfl, _, rfl, wd, wd2, v, v2, rfl, hw, hw2, o.wok, o2.wok, fun H1 g1 => ?_⟩
  refine ⟨_, rfl, (by show 0 ≤ sizeLine; exact Nat.zero_le _), fun t ht => ?_⟩
  have g2 := g1.trans (Gx.new (o := .tup []) ht)
  refine ⟨wd, v, t, [], rfl, g2.tu.isW hw, SqT.of upd_same, by decide, o.wok.low, o.form, g2.tab hT, fun H3 r p g3 hp e => ?_⟩
  refine ⟨p, r, rfl, hp, (o.form.gd e).sml, fun H4 r4 g4 h4 => ?_⟩
  have g4 := (g2.trans g3).trans g4
  refine ⟨_, rfl, (by show 0 ≤ sizeLine; exact Nat.zero_le _), fun t5 ht5 => ?_⟩
  have g5 : Gx P0 [] H4 (upd H4 t5 (.tup [])) := Gx.new ht5
  have ga := g4.trans g5
  refine ⟨wd2, v2, t5, [], rfl, ga.tu.isW hw2, SqT.of upd_same, by decide, o2.wok.low, o2.form, ga.tab hT, fun H6 r6 p6 g6 hp6 e6 => ?_⟩
  refine ⟨p6, r6, rfl, hp6, (o2.form.gd e6).sml, fun H7 r7 g7 h7 => ?_⟩
  rw [e] at h4
  rw [e6] at h7
  have gb := (g5.trans g6).trans g7
  refine ⟨_, _, gb.tu.isF h4, h7, o.shaped, o2.shaped, ?_⟩
  rw [F.data_eqv]
  exact q H7 (g4.trans gb)
end
end K78
set_option Elab.async false
set_option linter.all false
set_option maxRecDepth 100000
/-! K78, part 17: the law's dice. -/
namespace K78
open PySem PySem.Spec PyProof.Rows L2 LamX
def Dice (H : Hp) (d : Addr) : Prop := ∃ a b c : Int, H d = some (.lst [.int a, .int b, .int c])
section
variable {pg : Program} {w : World} {K : PySem.W.Frag} {mg : Str → Option Value} {base : Heap} {P0 : Addr}
theorem Gx.dice {H H' : Hp} {d : Addr} (g : Gx P0 [] H H') (h : Dice H d) : Dice H' d := by
  obtain ⟨a, b, c, h⟩ := h
  exact ⟨a, b, c, g.lstA (by simp) h⟩
theorem Dice.ne {H : Hp} {d t : Addr} (h : Dice H d) (ht : H t = none) : d ≠ t := by
  obtain ⟨a, b, c, h⟩ := h
  exact ne_of_none h ht
theorem atS {H : Hp} {K : PySem.W.Frag} {a : Addr} {xs : List V} {i : Nat} {v : V} (e : xs[i]? = some v) : atI xs (i : Int) = some v := atI_nat e

abbrev sDice : Stmt := topS 38
abbrev nDice : List Str := ["_law_script", "_law_spot", "_law_cell", "_law_great"]
theorem scDice : FnScope nDice ["_law_script", "_law_spot"] (defScope sDice) := ⟨rfl, rfl, rfl, by decide +kernel, rfl, by decide +kernel, by decide +kernel⟩
def spDice (K : PySem.W.Frag) (P0 : Addr) : Sp := fun vs H Q _ => ∃ (a : Addr) (ns : List Int) (i : Nat), vs = [.ref a, .int i] ∧ SqL K H a (ns.map V.int) ∧ ∀ H' d, Gx P0 [] H H' → H d = none → Dice H' d → Q (.ref d) H'
theorem ok_dice (T : Txt K mg w) (d : Def K mg "_law_dice" sDice ["_law_script", "_law_spot"]) : FnOk pg w K mg base CX0 1 d.f d.fd ["_law_script", "_law_spot"] (spDice K P0) := by
  refine d.fn.ok scDice (fun vs H Q E h => ?_) (fun cdv A outer s H vs Q E hr h => ?_)
  · obtain ⟨a, ns, i, rfl, _⟩ := h
    rfl
  obtain ⟨a, ns, i, rfl, hs, q⟩ := h
  refine ⟨_, pss_cons (ps_set (i := 2) scDice.nd rfl (Or.inl rfl) (pe_ifExp (pt_cmpR op_lt (pv 1) (pe_callB call_len_seq rfl T.len PySem.boot_len (pa_cons (pv 0) pa_nil)) (nomark _))
        (pe_callTy call_int1 rfl T.int (by decide +kernel) (pa_cons (pe_ix ix_list (pv 0) (pv 1) (fun _ _ => rfl)) pa_nil)) (pe_op op_add (pe_op op_mul pe_int (pv 1)) pe_int)))
    (pss_cons (ps_set (i := 3) scDice.nd rfl (Or.inl rfl) (pe_op op_mod (pe_callB (call_max2 rfl) rfl T.max (by decide +kernel) (pa_cons pe_int (pa_cons (pe_op op_sub (pe_callB call_abs rfl T.abs (by decide +kernel) (pa_cons (pv 2) pa_nil)) (pe_op op_pow pe_int pe_int)) pa_nil)))
        (pe_op op_mulW (pe_op op_pow pe_int pe_int) (pe_op op_pow pe_int pe_int))))
    (pss_one (ps_ret (pe_lst (pa_cons (pv 3) (pa_cons (pe_op op_add (pe_op op_add (pe_op op_add (pe_op op_mul (pe_op op_mod (pe_callB call_abs rfl T.abs (by decide +kernel) (pa_cons (pv 2) pa_nil)) pe_int) pe_int) (pe_op op_mul pe_int (pv 1)))
        (pe_op op_mul pe_int (pe_callTy call_int1 rfl T.int (by decide +kernel) (pa_cons (pe_cmpR op_lt (pv 2) pe_int rfl) pa_nil)))) pe_int) (pa_cons pe_int pa_nil))))))), ?_⟩
  refine ⟨_, rfl, _, rfl, a, _, rfl, .inl hs, _, _, rfl, rfl, decide ((i : Int) < (ns.map V.int).length), rfl, ?_⟩
  have p57 : CPow 10 57 := ⟨by decide, by decide, by decide +kernel⟩
  have p60 : CPow 10 60 := ⟨by decide, by decide, by decide +kernel⟩
  have p16 : CPow 10 16 := ⟨by decide, by decide, by decide +kernel⟩
  have mW : CMulW ((10 : Int) ^ (57 : Int).toNat) ((10 : Int) ^ (60 : Int).toNat) := by
    show Nat.log2 _ + Nat.log2 _ < _
    decide +kernel
  have pW : (0 : Int) < (10 : Int) ^ (57 : Int).toNat * (10 : Int) ^ (60 : Int).toNat := by decide +kernel
  have d101 : ∀ z : Int, CMul z 101 := fun z => .inr ⟨by decide, by decide⟩
  have d1019 : ∀ z : Int, CMul 1019 z := fun z => .inl ⟨by decide, by decide⟩
  have d59 : ∀ z : Int, CMul 59 z := fun z => .inl ⟨by decide, by decide⟩
  have d109 : ∀ z : Int, CMul 109 z := fun z => .inl ⟨by decide, by decide⟩
  have pM : (0 : Int) < 1152921504606846697 := by decide
  by_cases h : i < ns.length
  · rw [decide_eq_true (by rw [List.length_map]; omega)]
    refine ⟨_, rfl, _, rfl, a, _, i, V.int ns[i], rfl, rfl, hs, atI_nat (by rw [List.getElem?_map, List.getElem?_eq_getElem h]; rfl), .inl ⟨_, rfl, ?_⟩⟩
    refine ⟨_, rfl, _, rfl, _, _, rfl, rfl, p16, _, _, rfl, rfl, _, _, rfl, _, _, rfl, rfl, p57, _, _, rfl, rfl, p60, _, _, rfl, rfl, mW, _, _, rfl, rfl, pW, ?_⟩
    refine ⟨_, rfl, _, rfl, _, rfl, _, _, rfl, rfl, pM, _, _, rfl, rfl, d101 _, _, rfl, _, _, rfl, rfl, d1019 _, _, _, rfl, rfl, _, rfl, _, _, rfl, rfl, .inr ⟨_, rfl, _, _, rfl, rfl, d59 _, _, _, rfl, rfl, _, _, rfl, rfl, ?_⟩⟩
    exact ⟨(by show 3 ≤ sizeLine; decide), fun D hD => q _ D (Gx.new hD) hD ⟨_, _, _, upd_same⟩⟩
  · rw [decide_eq_false (by rw [List.length_map]; omega)]
    refine ⟨_, rfl, _, _, rfl, rfl, d109 _, _, _, rfl, rfl, ?_⟩
    refine ⟨_, rfl, _, rfl, _, _, rfl, rfl, p16, _, _, rfl, rfl, _, _, rfl, _, _, rfl, rfl, p57, _, _, rfl, rfl, p60, _, _, rfl, rfl, mW, _, _, rfl, rfl, pW, ?_⟩
    refine ⟨_, rfl, _, rfl, _, rfl, _, _, rfl, rfl, pM, _, _, rfl, rfl, d101 _, _, rfl, _, _, rfl, rfl, d1019 _, _, _, rfl, rfl, _, rfl, _, _, rfl, rfl, .inr ⟨_, rfl, _, _, rfl, rfl, d59 _, _, _, rfl, rfl, _, _, rfl, rfl, ?_⟩⟩
    exact ⟨(by show 3 ≤ sizeLine; decide), fun D hD => q _ D (Gx.new hD) hD ⟨_, _, _, upd_same⟩⟩

abbrev sRoll : Stmt := topS 39
abbrev nRoll : List Str := ["_law_dice_here", "_law_most", "_law_found", "_law_one", "_law_two"]
theorem scRoll : FnScope nRoll ["_law_dice_here", "_law_most"] (defScope sRoll) := ⟨rfl, rfl, rfl, by decide +kernel, rfl, by decide +kernel, by decide +kernel⟩
def spRoll (P0 : Addr) : Sp := fun vs H Q _ => ∃ (d : Addr) (m : Int), vs = [.ref d, .int m] ∧ Dice H d ∧ 0 < m ∧ m < 1073741824 ∧ ∀ H' r, Gx P0 [d] H H' → Dice H' d → 0 ≤ r → r < m → Q (.int r) H'
theorem ok_roll (T : Txt K mg w) (d : Def K mg "_law_roll" sRoll ["_law_dice_here", "_law_most"]) : FnOk pg w K mg base CX0 1 d.f d.fd ["_law_dice_here", "_law_most"] (spRoll P0) := by
  refine d.fn.ok scRoll (fun vs H Q E h => ?_) (fun cdv A outer s H vs Q E hr h => ?_)
  · obtain ⟨d, m, rfl, _⟩ := h
    rfl
  obtain ⟨d, m, rfl, ⟨a, b, c, hd⟩, h0, hm, q⟩ := h
  refine ⟨_, pss_cons (ps_if (pt_cmpR op_gt (pe_ix ix_list (pv 0) pe_int (fun _ _ => rfl)) pe_int (nomark _))
      (pss_cons (ps_set (i := 2) scRoll.nd rfl (Or.inl rfl) (pe_op op_mod (pe_callTy call_int1 rfl T.int (by decide +kernel) (pa_cons (pe_ix ix_list (pv 0) pe_int (fun _ _ => rfl)) pa_nil)) (pv 1)))
      (pss_cons (ps_asg (pe_op op_fdiv (pe_ix ix_list (pv 0) pe_int (fun _ _ => rfl)) (pv 1)) (pg_sub (pv 0) pe_int set_list)) (pss_one (ps_ret (pv 2))))) pss_nil)
    (pss_cons (ps_asg (pe_op op_add (pe_ix ix_list (pv 0) pe_int (fun _ _ => rfl)) pe_int) (pg_sub (pv 0) pe_int set_list))
    (pss_cons (ps_set (i := 3) scRoll.nd rfl (Or.inl rfl) (pe_op op_mod (pe_callTy call_int1 rfl T.int (by decide +kernel) (pa_cons (pe_op op_add (pe_ix ix_list (pv 0) pe_int (fun _ _ => rfl)) (pe_op op_mul pe_int (pe_ix ix_list (pv 0) pe_int (fun _ _ => rfl)))) pa_nil)) pe_int))
    (pss_cons (ps_set (i := 4) scRoll.nd rfl (Or.inl rfl) (pe_op op_add (pe_op op_mul (pe_op op_mod (pe_callTy call_int1 rfl T.int (by decide +kernel) (pa_cons (pe_op op_add (pe_op op_mul (pv 3) (pv 3)) (pe_op op_mul pe_int (pe_ix ix_list (pv 0) pe_int (fun _ _ => rfl)))) pa_nil)) pe_int) pe_int) (pv 3)))
    (pss_one (ps_ret (pe_op op_mod (pe_callTy call_int1 rfl T.int (by decide +kernel) (pa_cons (pe_op op_fdiv (pv 4) pe_int) pa_nil)) (pv 1))))))), ?_⟩
  refine ⟨_, rfl, d, _, 0, _, rfl, rfl, SqL.of hd, atI_nat (j := 0) rfl, _, _, rfl, rfl, decide (0 < a), rfl, ?_⟩
  by_cases h : 0 < a
  · rw [decide_eq_true h]
    refine ⟨_, rfl, d, _, 0, _, rfl, rfl, SqL.of hd, atI_nat (j := 0) rfl, .inl ⟨_, rfl, _, rfl, _, _, rfl, rfl, h0, ?_⟩⟩
    refine ⟨_, rfl, d, _, 0, _, rfl, rfl, SqL.of hd, atI_nat (j := 0) rfl, _, rfl, _, _, rfl, rfl, ⟨h0, hm⟩, _, rfl, d, _, 0, 0, rfl, rfl, hd, rfl, ?_⟩
    exact ⟨_, rfl, q _ _ (Gx.lst hd) ⟨_, _, _, upd_same⟩ (Int.emod_nonneg _ (by omega)) (Int.emod_lt_of_pos _ h0)⟩
  · rw [decide_eq_false h]
    refine ⟨_, rfl, d, _, 2, _, rfl, rfl, SqL.of hd, atI_nat (j := 2) rfl, _, _, rfl, rfl, _, rfl, d, _, 2, 2, rfl, rfl, hd, rfl, ?_⟩
    have hd' : upd H d (.lst [.int a, .int b, .int (c + 1)]) d = some (.lst [.int a, .int b, .int (c + 1)]) := upd_same
    have g : Gx P0 [d] H (upd H d (.lst [.int a, .int b, .int (c + 1)])) := Gx.lst hd
    refine ⟨_, rfl, d, _, 1, _, rfl, rfl, SqL.of hd', atI_nat (j := 1) rfl, _, rfl, d, _, 2, _, rfl, rfl, SqL.of hd', atI_nat (j := 2) rfl, _, _, rfl, rfl, .inl ⟨by decide, by decide⟩, _, _, rfl, rfl, .inl ⟨_, rfl, _, _, rfl, rfl, (by decide : (0 : Int) < 2305843009213693487), ?_⟩⟩
    have o0 := Int.emod_nonneg (b + 86028121 * (c + 1)) (b := 2305843009213693487) (by decide)
    have o1 := Int.emod_lt_of_pos (b + 86028121 * (c + 1)) (b := 2305843009213693487) (by decide)
    generalize (b + 86028121 * (c + 1)) % 2305843009213693487 = o at o0 o1 ⊢
    refine ⟨_, rfl, _, rfl, _, _, rfl, rfl, .inl ⟨by omega, by omega⟩, _, rfl, d, _, 2, _, rfl, rfl, SqL.of hd', atI_nat (j := 2) rfl, _, _, rfl, rfl, .inl ⟨by decide, by decide⟩, _, _, rfl, rfl, .inl ⟨_, rfl, _, _, rfl, rfl, (by decide : (0 : Int) < 2305843009213693669), _, _, rfl, rfl, .inr ⟨by decide, by decide⟩, _, rfl, _, _, rfl, rfl, ?_⟩⟩
    exact ⟨_, rfl, _, _, rfl, rfl, ⟨by decide, by decide⟩, .inl ⟨_, rfl, _, rfl, _, _, rfl, rfl, h0, q _ _ g ⟨_, _, _, hd'⟩ (Int.emod_nonneg _ (by omega)) (Int.emod_lt_of_pos _ h0)⟩⟩

abbrev sPick : Stmt := topS 40
abbrev nPick : List Str := ["_law_dice_here", "_law_items"]
theorem scPick : FnScope nPick nPick (defScope sPick) := ⟨rfl, rfl, rfl, by decide +kernel, rfl, by decide +kernel, by decide +kernel⟩
def spPick (K : PySem.W.Frag) (P0 : Addr) : Sp := fun vs H Q _ => ∃ (d a : Addr) (xs : List V), vs = [.ref d, .ref a] ∧ Dice H d ∧ SqL K H a xs ∧ a ≠ d ∧ 0 < xs.length ∧ xs.length < 1000 ∧ ∀ H' v, Gx P0 [d] H H' → Dice H' d → v ∈ xs → Q v H'
theorem ok_pick (T : Txt K mg w) (d : Def K mg "_law_pick" sPick nPick) (dr : Def K mg "_law_roll" sRoll ["_law_dice_here", "_law_most"]) (Gr : FnOk pg w K mg base CX0 1 dr.f dr.fd ["_law_dice_here", "_law_most"] (spRoll P0)) : FnOk pg w K mg base CX0 2 d.f d.fd nPick (spPick K P0) := by
  refine d.fn.ok scPick (fun vs H Q E h => ?_) (fun cdv A outer s H vs Q E hr h => ?_)
  · obtain ⟨d, a, xs, rfl, _⟩ := h
    rfl
  obtain ⟨d, a, xs, rfl, hd, hs, hne, h0, h1, q⟩ := h
  refine ⟨_, pss_one (ps_ret (pe_ix ix_list (pv 1) (pe_def dr Gr hr (pa_cons (pv 0) (pa_cons (pe_callB call_len_seq rfl T.len PySem.boot_len (pa_cons (pv 1) pa_nil)) pa_nil))) (fun _ _ => rfl))), ?_⟩
  refine ⟨_, rfl, _, rfl, _, rfl, a, xs, rfl, .inl hs, d, xs.length, rfl, hd, by omega, by omega, fun H1 r g1 hd1 r0 r1 => ?_⟩
  obtain ⟨j, rfl⟩ := Int.eq_ofNat_of_zero_le r0
  have hj : j < xs.length := by omega
  refine ⟨a, xs, j, xs[j], rfl, rfl, g1.seqL (by simpa using hne) hs, atI_nat (List.getElem?_eq_getElem hj), ?_⟩
  exact q H1 _ g1 hd1 (List.getElem_mem hj)
end
end K78
set_option Elab.async false
set_option linter.all false
set_option maxRecDepth 100000
/-! K78, part 18: drawn words. -/
namespace K78
open PySem PySem.Spec PyProof.Rows L2 LamX
theorem upd_upd {H : Hp} {p : Addr} {o o' : HO} : upd (upd H p o) p o' = upd H p o' := by
  funext b
  by_cases e : b = p
  · rw [e, upd_same, upd_same]
  · rw [upd_ne e, upd_ne e, upd_ne e]
abbrev KVs := List (Key × V)
def kvTurn : KVs := [(.inr "both", .str "either"), (.inr "either", .str "both"), (.inr "mine", .str "theirs"), (.inr "theirs", .str "mine")]
def kvOver : KVs := [(.inr "both", .str "mine"), (.inr "either", .str "theirs")]
def kvBack : KVs := [(.inr "mine", .str "both"), (.inr "theirs", .str "either")]
def Kd.back : Kd → Option Kd
  | .mi => some .bo
  | .th => some .ei
  | _ => none
theorem Kd.back_over {k o : Kd} : k.back = some o ↔ o.over = some k := by cases k <;> cases o <;> decide
theorem kvTurn_get (k : Kd) : valV (mergeK [] kvTurn) (.inr k.name) = some (.str k.dual.name) := by cases k <;> rfl
theorem kvOver_get (k : Kd) : valV (mergeK [] kvOver) (.inr k.name) = k.over.map fun o => .str o.name := by cases k <;> rfl
theorem kvBack_get (k : Kd) : valV (mergeK [] kvBack) (.inr k.name) = k.back.map fun o => .str o.name := by cases k <;> rfl
section
variable {pg : Program} {w : World} {K : PySem.W.Frag} {mg : Str → Option Value} {base : Heap} {P0 : Addr}
theorem dget_s {H : Hp} {p : Addr} {kvs : KVs} {x : Str} {o : Option V} (e : H p = some (.dK kvs)) (h : valV kvs (.inr x) = o) : DGet H p (.str x) o := by
  rw [← h]
  exact DGet.k (k := .inr x) e
def nm3 : List Str := ["a", "b", "key"]
theorem nm3_nm {wd : W} (h : wd.ok nm3) : wd.ok nm := W.ok_mono (by decide +kernel) h

/-! ### turned words -/
abbrev sTurn : Stmt := topS 41
abbrev nTurn : List Str := ["_law_word", "_law_kind"]
theorem scTurn : FnScope nTurn ["_law_word"] (defScope sTurn) := ⟨rfl, rfl, rfl, by decide +kernel, rfl, by decide +kernel, by decide +kernel⟩
def spTurn (K : PySem.W.Frag) (P0 : Addr) (n : Nat) : Sp := fun vs H Q _ => ∃ (wd : W) (v : V), vs = [v] ∧ IsW K H v wd ∧ wd.depth ≤ n ∧ ∀ H' r, Gx P0 [] H H' → IsW K H' r wd.turn → Q r H'
theorem turn_step (d : Def K mg "_law_dr_turned" sTurn ["_law_word"]) (n : Nat) (G : FnOk pg w K mg base CX0 n d.f d.fd ["_law_word"] (spTurn K P0 n)) : FnOk pg w K mg base CX0 (n + 1) d.f d.fd ["_law_word"] (spTurn K P0 (n + 1)) := by
  refine d.fn.ok scTurn (fun vs H Q E h => ?_) (fun cdv A outer s H vs Q E hr h => ?_)
  · obtain ⟨wd, v, rfl, _⟩ := h
    rfl
  obtain ⟨wd, v, rfl, hw, hd, q⟩ := h
  refine ⟨_, pss_cons (ps_if (pt_cmpR op_eq (pe_ix ix_tup (pv 0) pe_int (fun _ _ => rfl)) pe_str (nomark _)) (pss_one (ps_ret (pe_tup (pa_cons pe_str (pa_cons (pe_ix ix_tup (pv 0) pe_int (fun _ _ => rfl)) (pa_cons (pe_un un_neg (pe_ix ix_tup (pv 0) pe_int (fun _ _ => rfl))) pa_nil)))))) pss_nil)
    (pss_cons (ps_set (i := 1) scTurn.nd rfl (Or.inl rfl) (pe_dget (hu_of hr) (pe_disp (pps_cons pe_str pe_str (pps_cons pe_str pe_str (pps_cons pe_str pe_str (pps_cons pe_str pe_str pps_nil)))) rfl rfl (fun z => nomatch z) (by decide)) (pe_ix ix_tup (pv 0) pe_int (fun _ _ => rfl)) (fun _ _ => rfl)))
    (pss_one (ps_ret (pe_tup (pa_cons (pv 1) (pa_cons (pe_def d G hr (pa_cons (pe_ix ix_tup (pv 0) pe_int (fun _ _ => rfl)) pa_nil)) (pa_cons (pe_def d G hr (pa_cons (pe_ix ix_tup (pv 0) pe_int (fun _ _ => rfl)) pa_nil)) pa_nil))))))), ?_⟩
  cases wd with
  | lt nme i =>
    obtain ⟨a, rfl, hs⟩ := isW_lt hw
    refine ⟨_, rfl, a, _, 0, _, rfl, rfl, hs, atI_nat (j := 0) rfl, rfl, true, rfl, ?_⟩
    refine ⟨_, rfl, a, _, 1, _, rfl, rfl, hs, atI_nat (j := 1) rfl, _, rfl, a, _, 2, _, rfl, rfl, hs, atI_nat (j := 2) rfl, _, rfl, (by show 3 ≤ sizeLine; decide), fun t ht => ?_⟩
    exact q _ _ (Gx.new ht) (isW_mk_lt (SqT.of upd_same))
  | nd k b c =>
    obtain ⟨a, v1, v2, rfl, hs, h1, h2⟩ := isW_nd hw
    have hd' : 1 + max b.depth c.depth ≤ n + 1 := hd
    refine ⟨_, rfl, a, _, 0, _, rfl, rfl, hs, atI_nat (j := 0) rfl, rfl, false, by rw [dec_kd], ?_⟩
    refine fun p hp => ⟨upd_same, kvTurn, rfl, by decide, ?_⟩
    rw [upd_upd]
    have g0 : Gx P0 [] H (upd H p (.dK (mergeK [] kvTurn))) := Gx.new hp
    have hs0 := g0.tu.seq hs
    refine ⟨_, rfl, a, _, 0, _, rfl, rfl, hs0, atI_nat (j := 0) rfl, p, _, rfl, dget_s upd_same (kvTurn_get k), ?_⟩
    refine ⟨_, rfl, _, rfl, a, _, 1, _, rfl, rfl, hs0, atI_nat (j := 1) rfl, b, v1, rfl, g0.tu.isW h1, by omega, fun H1 r1 g1 w1 => ?_⟩
    have g1 := g0.trans g1
    refine ⟨_, rfl, a, _, 2, _, rfl, rfl, g1.tu.seq hs, atI_nat (j := 2) rfl, c, v2, rfl, g1.tu.isW h2, by omega, fun H2 r2 g2 w2 => ?_⟩
    refine ⟨(by show 3 ≤ sizeLine; decide), fun t ht => ?_⟩
    have gt : Gx P0 [] H2 (upd H2 t (.tup [.str k.dual.name, r1, r2])) := Gx.new ht
    exact q _ _ ((g1.trans g2).trans gt) (isW_mk_nd (SqT.of upd_same) ((g2.trans gt).tu.isW w1) (gt.tu.isW w2))
theorem ok_turn (d : Def K mg "_law_dr_turned" sTurn ["_law_word"]) : ∀ n : Nat, FnOk pg w K mg base CX0 n d.f d.fd ["_law_word"] (spTurn K P0 n)
  | 0 => fn_none fun vs H Q E h => by
    obtain ⟨wd, v, _, _, hd, _⟩ := h
    have := wd.depth_pos
    omega
  | n + 1 => turn_step d n (ok_turn d n)

/-! ### letters, depth -/
abbrev sLets : Stmt := topS 42
theorem scLets : FnScope ["_law_word"] ["_law_word"] (defScope sLets) := ⟨rfl, rfl, rfl, by decide +kernel, rfl, by decide +kernel, by decide +kernel⟩
def spLets (K : PySem.W.Frag) (P0 : Addr) (n : Nat) : Sp := fun vs H Q _ => ∃ (wd : W) (v : V), vs = [v] ∧ IsW K H v wd ∧ wd.depth ≤ n ∧ ∀ H', Gx P0 [] H H' → Q (.int wd.letters) H'
theorem lets_step (d : Def K mg "_law_dr_letters" sLets ["_law_word"]) (n : Nat) (G : FnOk pg w K mg base CX0 n d.f d.fd ["_law_word"] (spLets K P0 n)) : FnOk pg w K mg base CX0 (n + 1) d.f d.fd ["_law_word"] (spLets K P0 (n + 1)) := by
  refine d.fn.ok scLets (fun vs H Q E h => ?_) (fun cdv A outer s H vs Q E hr h => ?_)
  · obtain ⟨wd, v, rfl, _⟩ := h
    rfl
  obtain ⟨wd, v, rfl, hw, hd, q⟩ := h
  refine ⟨_, pss_one (ps_ret (pe_ifExp (pt_cmpR op_eq (pe_ix ix_tup (pv 0) pe_int (fun _ _ => rfl)) pe_str (nomark _)) pe_int (pe_op op_add (pe_def d G hr (pa_cons (pe_ix ix_tup (pv 0) pe_int (fun _ _ => rfl)) pa_nil)) (pe_def d G hr (pa_cons (pe_ix ix_tup (pv 0) pe_int (fun _ _ => rfl)) pa_nil))))), ?_⟩
  cases wd with
  | lt nme i =>
    obtain ⟨a, rfl, hs⟩ := isW_lt hw
    refine ⟨_, rfl, a, _, 0, _, rfl, rfl, hs, atI_nat (j := 0) rfl, rfl, true, rfl, ?_⟩
    exact q H (Gx.refl _ _ _)
  | nd k b c =>
    obtain ⟨a, v1, v2, rfl, hs, h1, h2⟩ := isW_nd hw
    have hd' : 1 + max b.depth c.depth ≤ n + 1 := hd
    refine ⟨_, rfl, a, _, 0, _, rfl, rfl, hs, atI_nat (j := 0) rfl, rfl, false, by rw [dec_kd], ?_⟩
    refine ⟨_, rfl, a, _, 1, _, rfl, rfl, hs, atI_nat (j := 1) rfl, b, v1, rfl, h1, by omega, fun H1 g1 => ?_⟩
    refine ⟨_, rfl, a, _, 2, _, rfl, rfl, g1.tu.seq hs, atI_nat (j := 2) rfl, c, v2, rfl, g1.tu.isW h2, by omega, fun H2 g2 => ⟨_, _, rfl, rfl, ?_⟩⟩
    have z := q H2 (g1.trans g2)
    have e : ((W.nd k b c).letters : Int) = (b.letters : Int) + (c.letters : Int) := Int.natCast_add _ _
    rw [e] at z
    exact z
theorem ok_lets (d : Def K mg "_law_dr_letters" sLets ["_law_word"]) : ∀ n : Nat, FnOk pg w K mg base CX0 n d.f d.fd ["_law_word"] (spLets K P0 n)
  | 0 => fn_none fun vs H Q E h => by
    obtain ⟨wd, v, _, _, hd, _⟩ := h
    have := wd.depth_pos
    omega
  | n + 1 => lets_step d n (ok_lets d n)
abbrev sDep : Stmt := topS 43
theorem scDep : FnScope ["_law_word"] ["_law_word"] (defScope sDep) := ⟨rfl, rfl, rfl, by decide +kernel, rfl, by decide +kernel, by decide +kernel⟩
def spDep (K : PySem.W.Frag) (P0 : Addr) (n : Nat) : Sp := fun vs H Q _ => ∃ (wd : W) (v : V), vs = [v] ∧ IsW K H v wd ∧ wd.depth ≤ n ∧ ∀ H', Gx P0 [] H H' → Q (.int wd.depth) H'
theorem dep_step (T : Txt K mg w) (d : Def K mg "_law_dr_depth" sDep ["_law_word"]) (n : Nat) (G : FnOk pg w K mg base CX0 n d.f d.fd ["_law_word"] (spDep K P0 n)) : FnOk pg w K mg base CX0 (n + 1) d.f d.fd ["_law_word"] (spDep K P0 (n + 1)) := by
  refine d.fn.ok scDep (fun vs H Q E h => ?_) (fun cdv A outer s H vs Q E hr h => ?_)
  · obtain ⟨wd, v, rfl, _⟩ := h
    rfl
  obtain ⟨wd, v, rfl, hw, hd, q⟩ := h
  refine ⟨_, pss_one (ps_ret (pe_ifExp (pt_cmpR op_eq (pe_ix ix_tup (pv 0) pe_int (fun _ _ => rfl)) pe_str (nomark _)) pe_int (pe_op op_add pe_int (pe_callB (call_max2 rfl) rfl T.max (by decide +kernel) (pa_cons (pe_def d G hr (pa_cons (pe_ix ix_tup (pv 0) pe_int (fun _ _ => rfl)) pa_nil)) (pa_cons (pe_def d G hr (pa_cons (pe_ix ix_tup (pv 0) pe_int (fun _ _ => rfl)) pa_nil)) pa_nil)))))), ?_⟩
  cases wd with
  | lt nme i =>
    obtain ⟨a, rfl, hs⟩ := isW_lt hw
    refine ⟨_, rfl, a, _, 0, _, rfl, rfl, hs, atI_nat (j := 0) rfl, rfl, true, rfl, ?_⟩
    exact q H (Gx.refl _ _ _)
  | nd k b c =>
    obtain ⟨a, v1, v2, rfl, hs, h1, h2⟩ := isW_nd hw
    have hd' : 1 + max b.depth c.depth ≤ n + 1 := hd
    refine ⟨_, rfl, a, _, 0, _, rfl, rfl, hs, atI_nat (j := 0) rfl, rfl, false, by rw [dec_kd], ?_⟩
    refine ⟨_, rfl, a, _, 1, _, rfl, rfl, hs, atI_nat (j := 1) rfl, b, v1, rfl, h1, by omega, fun H1 g1 => ?_⟩
    refine ⟨_, rfl, a, _, 2, _, rfl, rfl, g1.tu.seq hs, atI_nat (j := 2) rfl, c, v2, rfl, g1.tu.isW h2, by omega, fun H2 g2 => ⟨_, _, rfl, _, _, rfl, rfl, ?_⟩⟩
    have z := q H2 (g1.trans g2)
    have e : ((W.nd k b c).depth : Int) = 1 + (if (c.depth : Int) > (b.depth : Int) then (c.depth : Int) else (b.depth : Int)) := by
      show ((1 + max b.depth c.depth : Nat) : Int) = _
      split <;> omega
    rw [e] at z
    exact z
theorem ok_dep (T : Txt K mg w) (d : Def K mg "_law_dr_depth" sDep ["_law_word"]) : ∀ n : Nat, FnOk pg w K mg base CX0 n d.f d.fd ["_law_word"] (spDep K P0 n)
  | 0 => fn_none fun vs H Q E h => by
    obtain ⟨wd, v, _, _, hd, _⟩ := h
    have := wd.depth_pos
    omega
  | n + 1 => dep_step T d n (ok_dep T d n)

/-! ### drawn letters, drawn words -/
abbrev sLetr : Stmt := topS 44
theorem scLetr : FnScope ["_law_dice_here"] ["_law_dice_here"] (defScope sLetr) := ⟨rfl, rfl, rfl, by decide +kernel, rfl, by decide +kernel, by decide +kernel⟩
def spLetr (K : PySem.W.Frag) (P0 : Addr) : Sp := fun vs H Q _ => ∃ d : Addr, vs = [.ref d] ∧ Dice H d ∧ ∀ H' r wd, Gx P0 [d] H H' → Dice H' d → IsW K H' r wd → wd.ok nm3 → wd.depth ≤ 1 → Q r H'
theorem ok_letr (d : Def K mg "_law_dr_letter" sLetr ["_law_dice_here"]) (dp : Def K mg "_law_pick" sPick nPick) (Gp : FnOk pg w K mg base CX0 2 dp.f dp.fd nPick (spPick K P0)) : FnOk pg w K mg base CX0 3 d.f d.fd ["_law_dice_here"] (spLetr K P0) := by
  refine d.fn.ok scLetr (fun vs H Q E h => ?_) (fun cdv A outer s H vs Q E hr h => ?_)
  · obtain ⟨d, rfl, _⟩ := h
    rfl
  obtain ⟨d, rfl, hd, q⟩ := h
  refine ⟨_, pss_one (ps_ret (pe_tup (pa_cons pe_str (pa_cons (pe_def dp Gp hr (pa_cons (pv 0) (pa_cons (pe_lst (pa_cons pe_str (pa_cons pe_str (pa_cons pe_str (pa_cons pe_str (pa_cons pe_str (pa_cons pe_str pa_nil))))))) pa_nil)))
    (pa_cons (pe_def dp Gp hr (pa_cons (pv 0) (pa_cons (pe_lst (pa_cons pe_int (pa_cons (pe_un un_neg pe_int) pa_nil))) pa_nil))) pa_nil))))), ?_⟩
  refine ⟨_, rfl, (by show 6 ≤ sizeLine; decide), fun t ht => ?_⟩
  have g0 : Gx P0 [] H (upd H t (.lst [.str "a", .str "a", .str "a", .str "b", .str "b", .str "key"])) := Gx.new ht
  refine ⟨d, t, _, rfl, g0.dice hd, SqL.of upd_same, (hd.ne ht).symm, by decide, by decide, fun H1 v g1 hd1 hv => ?_⟩
  have hn : ∃ n, v = .str n ∧ n ∈ nm3 := by
    simp only [List.mem_cons, List.not_mem_nil, or_false] at hv
    rcases hv with rfl | rfl | rfl | rfl | rfl | rfl <;> exact ⟨_, rfl, by decide +kernel⟩
  obtain ⟨n, rfl, hn⟩ := hn
  refine ⟨_, rfl, _, rfl, (by show 2 ≤ sizeLine; decide), fun t2 ht2 => ?_⟩
  have g2 : Gx P0 [] H1 (upd H1 t2 (.lst [.int 1, .int (-1)])) := Gx.new ht2
  refine ⟨d, t2, _, rfl, g2.dice hd1, SqL.of upd_same, (hd1.ne ht2).symm, (by show 0 < 2; decide), (by show 2 < 1000; decide), fun H3 v g3 hd3 hv => ?_⟩
  have hs : ∃ s : Int, v = .int s ∧ (s = 1 ∨ s = -1) := by
    simp only [List.mem_cons, List.not_mem_nil, or_false] at hv
    rcases hv with rfl | rfl
    · exact ⟨_, rfl, .inl rfl⟩
    · exact ⟨_, rfl, .inr rfl⟩
  obtain ⟨i, rfl, hi⟩ := hs
  refine ⟨(by show 3 ≤ sizeLine; decide), fun t4 ht4 => ?_⟩
  have g4 : Gx P0 [] H3 (upd H3 t4 (.tup [.str "letter", .str n, .int i])) := Gx.new ht4
  exact q _ _ (.lt n i) ((((g0.more (ex := [d])).trans g1).trans ((g2.more (ex := [d])).trans g3)).trans g4.more) (g4.dice hd3) (isW_mk_lt (SqT.of upd_same)) ⟨hn, hi⟩ (Nat.le_refl _)
end
end K78
set_option Elab.async false
set_option linter.all false
set_option maxRecDepth 100000
/-! K78, part 19: drawn words, the law's own forms. -/
namespace K78
open PySem PySem.Spec PyProof.Rows L2 LamX
section
variable {pg : Program} {w : World} {K : PySem.W.Frag} {mg : Str → Option Value} {base : Heap} {P0 : Addr}
theorem kd_of_mem {v : V} (h : v ∈ ([.str "both", .str "either", .str "mine", .str "theirs"] : List V)) : ∃ k : Kd, v = .str k.name := by
  simp only [List.mem_cons, List.not_mem_nil, or_false] at h
  rcases h with rfl | rfl | rfl | rfl
  · exact ⟨.bo, rfl⟩
  · exact ⟨.ei, rfl⟩
  · exact ⟨.mi, rfl⟩
  · exact ⟨.th, rfl⟩
abbrev sWord : Stmt := topS 45
abbrev nWord : List Str := ["_law_dice_here", "_law_deep", "_law_kind"]
theorem scWord : FnScope nWord ["_law_dice_here", "_law_deep"] (defScope sWord) := ⟨rfl, rfl, rfl, by decide +kernel, rfl, by decide +kernel, by decide +kernel⟩
def spWord (K : PySem.W.Frag) (P0 : Addr) (n : Nat) : Sp := fun vs H Q _ => ∃ (d : Addr) (i : Nat), vs = [.ref d, .int i] ∧ Dice H d ∧ 1 ≤ i ∧ i ≤ n ∧ ∀ H' r wd, Gx P0 [d] H H' → Dice H' d → IsW K H' r wd → wd.ok nm3 → wd.depth ≤ i → Q r H'
theorem word_step (d : Def K mg "_law_dr_word" sWord ["_law_dice_here", "_law_deep"]) (dr : Def K mg "_law_roll" sRoll ["_law_dice_here", "_law_most"]) (dp : Def K mg "_law_pick" sPick nPick) (dl : Def K mg "_law_dr_letter" sLetr ["_law_dice_here"])
    (Gr : FnOk pg w K mg base CX0 1 dr.f dr.fd ["_law_dice_here", "_law_most"] (spRoll P0)) (Gp : FnOk pg w K mg base CX0 2 dp.f dp.fd nPick (spPick K P0)) (Gl : FnOk pg w K mg base CX0 3 dl.f dl.fd ["_law_dice_here"] (spLetr K P0))
    (n : Nat) (G : FnOk pg w K mg base CX0 (3 + n) d.f d.fd ["_law_dice_here", "_law_deep"] (spWord K P0 n)) : FnOk pg w K mg base CX0 (3 + n + 1) d.f d.fd ["_law_dice_here", "_law_deep"] (spWord K P0 (n + 1)) := by
  refine d.fn.ok scWord (fun vs H Q E h => ?_) (fun cdv A outer s H vs Q E hr h => ?_)
  · obtain ⟨d, i, rfl, _⟩ := h
    rfl
  have h1 : Room 1 (A.deeper (envOfC "_law_dr_word" (defScope sWord) s.heap.objs.size d.f cdv)) := hr.mono (by omega)
  have h2 : Room 2 (A.deeper (envOfC "_law_dr_word" (defScope sWord) s.heap.objs.size d.f cdv)) := hr.mono (by omega)
  have h3 : Room 3 (A.deeper (envOfC "_law_dr_word" (defScope sWord) s.heap.objs.size d.f cdv)) := hr.mono (by omega)
  obtain ⟨d0, i, rfl, hd, i1, hi, q⟩ := h
  refine ⟨_, pss_cons (ps_if (PW.pt (pw_or (pt_cmpR op_lt (pv 1) pe_int (nomark _)) (pw_or1 (pt_cmpR op_eq (pe_def dr Gr h1 (pa_cons (pv 0) (pa_cons pe_int pa_nil))) pe_int (nomark _))))) (pss_one (ps_ret (pe_def dl Gl h3 (pa_cons (pv 0) pa_nil)))) pss_nil)
    (pss_cons (ps_set (i := 2) scWord.nd rfl (Or.inl rfl) (pe_def dp Gp h2 (pa_cons (pv 0) (pa_cons (pe_lst (pa_cons pe_str (pa_cons pe_str (pa_cons pe_str (pa_cons pe_str pa_nil))))) pa_nil))))
    (pss_one (ps_ret (pe_tup (pa_cons (pv 2) (pa_cons (pe_def d G hr (pa_cons (pv 0) (pa_cons (pe_op op_sub (pv 1) pe_int) pa_nil))) (pa_cons (pe_def d G hr (pa_cons (pv 0) (pa_cons (pe_op op_sub (pv 1) pe_int) pa_nil))) pa_nil))))))), ?_⟩
  refine ⟨_, rfl, _, _, rfl, rfl, decide ((i : Int) < 2), rfl, ?_⟩
  by_cases hi2 : (i : Int) < 2
  · rw [decide_eq_true hi2]
    exact ⟨_, rfl, d0, rfl, hd, fun H' r wd g hd' hw ho hdp => q H' r wd g hd' hw ho (by omega)⟩
  rw [decide_eq_false hi2]
  refine ⟨_, rfl, d0, 3, rfl, hd, by decide, by decide, fun H1 r g1 hd1 r0 r1 => ?_⟩
  refine ⟨rfl, decide (V.int r = V.int 0), rfl, ?_⟩
  by_cases hr0 : V.int r = V.int 0
  · rw [decide_eq_true hr0]
    exact ⟨_, rfl, d0, rfl, hd1, fun H' r wd g hd' hw ho hdp => q H' r wd (g1.trans g) hd' hw ho (by omega)⟩
  rw [decide_eq_false hr0]
  refine ⟨_, rfl, (by show 4 ≤ sizeLine; decide), fun t ht => ?_⟩
  have g2 : Gx P0 [] H1 (upd H1 t (.lst [.str "both", .str "either", .str "mine", .str "theirs"])) := Gx.new ht
  refine ⟨d0, t, _, rfl, g2.dice hd1, SqL.of upd_same, (hd1.ne ht).symm, (by show 0 < 4; decide), (by show 4 < 1000; decide), fun H3 v g3 hd3 hv => ?_⟩
  obtain ⟨k, rfl⟩ := kd_of_mem hv
  have g3 := g1.trans ((g2.more (ex := [d0])).trans g3)
  have ei : ((i : Int) - 1) = ((i - 1 : Nat) : Int) := by omega
  refine ⟨_, rfl, _, rfl, _, rfl, _, _, rfl, rfl, d0, i - 1, by rw [← ei]; rfl, hd3, by omega, by omega, fun H4 r4 w4 g4 hd4 hw4 ho4 hp4 => ?_⟩
  refine ⟨_, rfl, _, rfl, _, _, rfl, rfl, d0, i - 1, by rw [← ei]; rfl, hd4, by omega, by omega, fun H5 r5 w5 g5 hd5 hw5 ho5 hp5 => ?_⟩
  refine ⟨(by show 3 ≤ sizeLine; decide), fun t6 ht6 => ?_⟩
  have g6 : Gx P0 [] H5 (upd H5 t6 (.tup [.str k.name, r4, r5])) := Gx.new ht6
  exact q _ _ (.nd k w4 w5) (((g3.trans g4).trans g5).trans g6.more) (g6.dice hd5) (isW_mk_nd (SqT.of upd_same) ((g5.tu.trans g6.tu).isW hw4) (g6.tu.isW hw5)) ⟨ho4, ho5⟩ (by show 1 + max w4.depth w5.depth ≤ i; omega)
theorem ok_word (d : Def K mg "_law_dr_word" sWord ["_law_dice_here", "_law_deep"]) (dr : Def K mg "_law_roll" sRoll ["_law_dice_here", "_law_most"]) (dp : Def K mg "_law_pick" sPick nPick) (dl : Def K mg "_law_dr_letter" sLetr ["_law_dice_here"])
    (Gr : FnOk pg w K mg base CX0 1 dr.f dr.fd ["_law_dice_here", "_law_most"] (spRoll P0)) (Gp : FnOk pg w K mg base CX0 2 dp.f dp.fd nPick (spPick K P0)) (Gl : FnOk pg w K mg base CX0 3 dl.f dl.fd ["_law_dice_here"] (spLetr K P0)) :
    ∀ n : Nat, FnOk pg w K mg base CX0 (3 + n) d.f d.fd ["_law_dice_here", "_law_deep"] (spWord K P0 n)
  | 0 => fn_none fun vs H Q E h => by
    obtain ⟨d, i, _, _, h1, h2, _⟩ := h
    omega
  | n + 1 => word_step d dr dp dl Gr Gp Gl n (ok_word d dr dp dl Gr Gp Gl n)

/-! ### the law's forms -/
abbrev sAlF : Stmt := topS 46
abbrev nAlF : List Str := ["_law_kind", "_law_form"]
theorem scAlF : FnScope nAlF nAlF (defScope sAlF) := ⟨rfl, rfl, rfl, by decide +kernel, rfl, by decide +kernel, by decide +kernel⟩
def spAlF (K : PySem.W.Frag) (P0 : Addr) : Sp := fun vs H Q _ => ∃ (k : Kd) (f : F) (v : V), vs = [.str k.name, v] ∧ IsF K H v f ∧
  ∀ H' D xs, Gx P0 [] H H' → H D = none → H' D = some (.lst xs) → AreF K H' xs (F.parts k f) → Q (.ref D) H'
theorem ok_alF (T : Txt K mg w) (d : Def K mg "_law_al_forms" sAlF nAlF) : FnOk pg w K mg base CX0 1 d.f d.fd nAlF (spAlF K P0) := by
  refine d.fn.ok scAlF (fun vs H Q E h => ?_) (fun cdv A outer s H vs Q E hr h => ?_)
  · obtain ⟨k, p, v, rfl, _⟩ := h
    rfl
  obtain ⟨k, f, v, rfl, hf, q⟩ := h
  refine ⟨_, pss_one (ps_ret (pe_ifExp (pt_cmpR op_eq (pe_ix ix_tup (pv 1) pe_int (fun _ _ => rfl)) (pv 0) (nomark _)) (pe_callTy call_list_of rfl T.list (by decide +kernel) (pa_cons (pe_ix ix_tup (pv 1) pe_int (fun _ _ => rfl)) pa_nil))
    (pe_lst (pa_cons (pv 1) pa_nil)))), ?_⟩
  cases f with
  | lt nme i =>
    obtain ⟨a, rfl, hsq⟩ := isF_lt hf
    refine ⟨_, rfl, a, _, 0, _, rfl, rfl, hsq, atI_nat (j := 0) rfl, _, rfl, rfl, false, ?_, ?_⟩
    · exact congrArg V.bl (dec_lk k)
    refine ⟨_, rfl, (by show 1 ≤ sizeLine; decide), fun t ht => ?_⟩
    refine q _ _ _ (Gx.new ht) ht upd_same ?_
    exact AreF.cons ((Tu.new ht).isF hf) AreF.nil
  | nd l fs =>
    obtain ⟨a, c, vs, rfl, hsq, hc, hA⟩ := isF_nd hf
    refine ⟨_, rfl, a, _, 0, _, rfl, rfl, hsq, atI_nat (j := 0) rfl, _, rfl, rfl, decide (l = k), ?_, ?_⟩
    · exact congrArg V.bl (dec_kk k l)
    by_cases h : l = k
    · rw [decide_eq_true h]
      refine ⟨_, rfl, a, _, 1, _, rfl, rfl, hsq, atI_nat (j := 1) rfl, c, vs, rfl, .inr hc, fun t ht => ?_⟩
      refine q _ _ _ (Gx.new ht) ht upd_same ?_
      have e : F.parts k (.nd l fs) = fs := if_pos h
      rw [e]
      exact (Tu.new ht).areF hA
    · rw [decide_eq_false h]
      refine ⟨_, rfl, (by show 1 ≤ sizeLine; decide), fun t ht => ?_⟩
      refine q _ _ _ (Gx.new ht) ht upd_same ?_
      have e : F.parts k (.nd l fs) = [.nd l fs] := if_neg h
      rw [e]
      exact AreF.cons ((Tu.new ht).isF hf) AreF.nil
/-- a form of the law: big, but not too deep -/
structure Bf (f : F) : Prop where
  pos : F.pos f
  ok : F.ok nm f
  few : F.size f ≤ 8388608
  low : F.depth f ≤ 20
theorem Bf.part {k : Kd} {f g : F} (h : Bf f) (hg : g ∈ F.parts k f) : Bf g := by
  have z := F.mem_size hg
  rw [F.parts_size] at z
  exact ⟨F.parts_pos h.pos _ hg, F.parts_ok h.ok _ hg, Nat.le_trans z h.few, Nat.le_trans (F.parts_depth _ hg) h.low⟩
theorem Bf.oks {fs : List F} (h : ∀ f ∈ fs, Bf f) : F.oks nm fs := F.oks_iff.mpr fun f hf => (h f hf).ok
theorem Bf.depths {fs : List F} (h : ∀ f ∈ fs, Bf f) : F.depths fs ≤ 60 := F.depths_iff.mpr fun f hf => Nat.le_trans (h f hf).low (by decide)
abbrev rTupL (K : PySem.W.Frag) : List V → Hp → VK → Prop := fun xs H Q => ∃ p ys, xs = [.ref p] ∧ ((SqL K H p ys ∧ ∀ l, H l = none → Q (.ref l) (upd H l (.tup ys))) ∨ (SqT K H p ys ∧ Q (.ref p) H))
/-- (kind, tuple(sorted(list))) -/
theorem rd_sorted {H : Hp} {k : Kd} {t : TE} {tk : TE} {σ : L2.St} {Q : VK} {fs : List F} (hk : ∀ (Q : VK) H, Q (.str k.name) H → tk σ H Q)
    (h : ∀ Q : VK, (∀ H' a xs, Gx P0 [] H H' → H' a = some (.lst xs) → AreF K H' xs fs → Q (.ref a) H') → t σ H Q) (hfs : ∀ f ∈ fs, Bf f)
    (q : ∀ H' r, Gx P0 [] H H' → IsF K H' r (.nd k (F.srt fs)) → Q r H') :
    (tTup (tCons tk (tCons (tCB (rTupL K) (tCons (tCB (rSortF nm K) (tCons t tNil)) tNil)) tNil))) σ H Q := by
  refine hk _ _ (h _ fun H1 a xs g1 ha hA => ?_)
  refine ⟨a, xs, fs, rfl, SqL.of ha, hA, Bf.oks hfs, Bf.depths hfs, fun p zs hp hz => ?_⟩
  have gp : Gx P0 [] H1 (upd H1 p (.lst zs)) := Gx.new hp
  refine ⟨p, zs, rfl, .inl ⟨SqL.of upd_same, fun l hl => ?_⟩⟩
  have gl : Gx P0 [] (upd H1 p (.lst zs)) (upd (upd H1 p (.lst zs)) l (.tup zs)) := Gx.new hl
  refine ⟨(by show 2 ≤ sizeLine; decide), fun u hu => ?_⟩
  have gu : Gx P0 [] (upd (upd H1 p (.lst zs)) l (.tup zs)) (upd (upd (upd H1 p (.lst zs)) l (.tup zs)) u (.tup [.str k.name, .ref l])) := Gx.new hu
  refine q _ _ ((g1.trans gp).trans (gl.trans gu)) (isF_mk_nd (c := l) (vs := zs) (SqT.of upd_same) (SqT.of ?_) (((gp.trans gl).trans gu).tu.areF hz))
  rw [upd_ne (ne_of_none upd_same hu), upd_same]
/-- the forms of two, one behind the other -/
theorem rd_cat {H : Hp} {k : Kd} {tk ta tb : TE} {σ : L2.St} {Q : VK} {x y : F} {v u : V} (hk : ∀ (Q : VK) H, Q (.str k.name) H → tk σ H Q) (ha : ∀ (Q : VK) H, Q v H → ta σ H Q) (hb : ∀ (Q : VK) H, Q u H → tb σ H Q)
    (hx : IsF K H v x) (hy : IsF K H u y) (bx : Bf x) (b_y : Bf y) (hs : F.size x + F.size y ≤ 8388608)
    (q : ∀ H' a xs, Gx P0 [] H H' → H' a = some (.lst xs) → AreF K H' xs (F.parts k x ++ F.parts k y) → Q (.ref a) H') :
    (tOp rCat (tCall (spAlF K P0) [] E0 (tCons tk (tCons ta tNil))) (tCall (spAlF K P0) [] E0 (tCons tk (tCons tb tNil)))) σ H Q := by
  refine hk _ _ (ha _ _ ⟨k, x, v, rfl, hx, fun H1 D xs g1 hn h1 hA => ?_⟩)
  refine hk _ _ (hb _ _ ⟨k, y, u, rfl, g1.tu.isF hy, fun H2 D2 xs2 g2 hn2 h2 hA2 => ?_⟩)
  have h1 := g2.lstA (by simp) h1
  have hA := g2.tu.areF hA
  refine ⟨D, D2, xs, xs2, rfl, rfl, h1, h2, ?_, fun p hp => ?_⟩
  · rw [hA.len, hA2.len]
    have z1 := F.parts_len (k := k) bx.pos
    have z2 := F.parts_len (k := k) b_y.pos
    exact Nat.le_of_lt (big_of (by omega))
  · exact q _ _ _ ((g1.trans g2).trans (Gx.new hp)) upd_same ((Tu.new hp).areF (hA.append hA2))
end
end K78
set_option Elab.async false
set_option linter.all false
set_option maxRecDepth 100000
/-! K78, part 20: the law's normal form. -/
namespace K78
open PySem PySem.Spec PyProof.Rows L2 LamX
section
variable {pg : Program} {w : World} {K : PySem.W.Frag} {mg : Str → Option Value} {base : Heap} {P0 : Addr}
abbrev sAl : Stmt := topS 47
abbrev nAl : List Str := ["_law_word", "_law_ones", "_law_others", "_law_kind", "_law_over", "_law_found", "_law_left", "_law_right_here"]
theorem scAl : FnScope nAl ["_law_word"] (defScope sAl) := ⟨rfl, rfl, rfl, by decide +kernel, rfl, by decide +kernel, by decide +kernel⟩
/-- words that the law takes forms of -/
structure AOk (wd : W) : Prop where
  ok : wd.ok nm
  low : wd.depth ≤ 8
  few : wd.letters ≤ 24
theorem AOk.bf {wd : W} (h : AOk wd) : Bf (norm wd) := by
  have h1 := norm_size wd
  have h2 := Nat.pow_le_pow_right (n := 2) (by decide) h.few
  have h3 := norm_depth wd
  have h4 := h.low
  exact ⟨norm_pos wd, norm_ok h.ok, by omega, by omega⟩
theorem AOk.left {k : Kd} {a b : W} (h : AOk (.nd k a b)) : AOk a := by
  have h2 : 1 + max a.depth b.depth ≤ 8 := h.low
  have h3 : a.letters + b.letters ≤ 24 := h.few
  exact ⟨h.ok.1, by omega, by omega⟩
theorem AOk.right {k : Kd} {a b : W} (h : AOk (.nd k a b)) : AOk b := by
  have h2 : 1 + max a.depth b.depth ≤ 8 := h.low
  have h3 : a.letters + b.letters ≤ 24 := h.few
  exact ⟨h.ok.2, by omega, by omega⟩
structure AlS (k o : Kd) (x y : F) : Prop where
  bf : ∀ f ∈ pr k (F.parts o x) (F.parts o y), Bf f
  len : (F.parts o x).length * (F.parts o y).length ≤ 8388608
  sum : F.size x + F.size y ≤ 8388608
theorem al_facts {k o : Kd} {a b : W} (hk : k.over = some o) (h : AOk (.nd k a b)) : AlS k o (norm a) (norm b) := by
  have hb := h.bf
  have ha := h.left.bf
  have hc := h.right.bf
  have hs : F.size (F.comb k (norm a) (norm b)) ≤ 8388608 := hb.few
  rw [F.comb_size_spread hk] at hs
  have l1 := len_pos (k := o) ha.pos
  have l2 := len_pos (k := o) hc.pos
  have m1 := Nat.mul_le_mul_right (F.size (norm a)) l2
  have m2 := Nat.mul_le_mul_right (F.size (norm b)) l1
  have d1 : F.depth (norm a) ≤ 15 := by have z1 := norm_depth a; have z2 := h.left.low; omega
  have d2 : F.depth (norm b) ≤ 15 := by have z1 := norm_depth b; have z2 := h.right.low; omega
  refine ⟨fun f hf => ?_, ?_, by omega⟩
  · obtain ⟨l, hl, r, hr, rfl⟩ := mem_pr hf
    have a1 := F.parts_depth l hl
    have a2 := F.parts_depth r hr
    have a3 := F.gath_depth k l r
    have s1 := F.mem_size hl
    have s2 := F.mem_size hr
    rw [F.parts_size] at s1 s2
    refine ⟨F.gath_pos (F.parts_pos ha.pos l hl) (F.parts_pos hc.pos r hr), F.gath_ok (F.parts_ok ha.ok l hl) (F.parts_ok hc.ok r hr), ?_, by omega⟩
    rw [F.gath_size]
    omega
  · have z := Nat.mul_le_mul_left (F.parts o (norm a)).length (F.parts_len (k := o) hc.pos)
    omega
def spAl (K : PySem.W.Frag) (P0 : Addr) (n : Nat) : Sp := fun vs H Q _ => ∃ (wd : W) (v : V), vs = [v] ∧ IsW K H v wd ∧ wd.depth ≤ n ∧ AOk wd ∧ ∀ H' r, Gx P0 [] H H' → IsF K H' r (norm wd) → Q r H'
theorem name_ne_empty (k : Kd) : k.name ≠ ("" : Str) := by cases k <;> decide +kernel
theorem gath_bf {k : Kd} {x y : F} (hx : Bf x) (hy : Bf y) : ∀ f ∈ F.parts k x ++ F.parts k y, Bf f := fun f hf => by
  rcases List.mem_append.mp hf with h | h
  · exact hx.part h
  · exact hy.part h
set_option maxHeartbeats 4000000 in
theorem al_step (T : Txt K mg w) (d : Def K mg "_law_al_form" sAl ["_law_word"]) (df : Def K mg "_law_al_forms" sAlF nAlF) (Gf : FnOk pg w K mg base CX0 1 df.f df.fd nAlF (spAlF K P0))
    (n : Nat) (G : FnOk pg w K mg base CX0 (1 + n) d.f d.fd ["_law_word"] (spAl K P0 n)) : FnOk pg w K mg base CX0 (1 + n + 1) d.f d.fd ["_law_word"] (spAl K P0 (n + 1)) := by
  refine d.fn.ok scAl (fun vs H Q E h => ?_) (fun cdv A outer s H vs Q E hr h => ?_)
  · obtain ⟨wd, v, rfl, _⟩ := h
    rfl
  have h1 : Room 1 (A.deeper (envOfC "_law_al_form" (defScope sAl) s.heap.objs.size d.f cdv)) := hr.mono (by omega)
  obtain ⟨wd, v, rfl, hw, hd, ho, q⟩ := h
  refine ⟨_, pss_cons (ps_if (pt_cmpR op_eq (pe_ix ix_tup (pv 0) pe_int (fun _ _ => rfl)) pe_str (nomark _)) (pss_one (ps_ret (pv 0))) pss_nil)
    (pss_cons (ps_par (i := 1) (j := 2) rfl scAl.nd rfl rfl (by decide) rfl rfl (pa_cons (pe_def d G hr (pa_cons (pe_ix ix_tup (pv 0) pe_int (fun _ _ => rfl)) pa_nil)) (pa_cons (pe_def d G hr (pa_cons (pe_ix ix_tup (pv 0) pe_int (fun _ _ => rfl)) pa_nil)) pa_nil)) (by rfl))
    (pss_cons (ps_par (i := 3) (j := 4) rfl scAl.nd rfl rfl (by decide) rfl rfl (pa_cons (pe_ix ix_tup (pv 0) pe_int (fun _ _ => rfl))
        (pa_cons (pe_dget2 (hu_of hr) (pe_disp (pps_cons pe_str pe_str (pps_cons pe_str pe_str pps_nil)) rfl rfl (fun z => nomatch z) (by decide)) (pe_ix ix_tup (pv 0) pe_int (fun _ _ => rfl)) pe_str ⟨rfl, rfl, rfl, rfl⟩) pa_nil)) (by rfl))
    (pss_cons (ps_if (pt_cmpR op_eq (pv 4) pe_str (nomark _)) (pss_one (ps_ret (pe_tup (pa_cons (pv 3) (pa_cons (pe_callTy call_tuple_of rfl T.tuple (by decide +kernel) (pa_cons (pe_callB (cr_sortedF nm_ok hr) rfl T.sorted (by decide +kernel)
        (pa_cons (pe_op op_cat (pe_def df Gf h1 (pa_cons (pv 3) (pa_cons (pv 1) pa_nil))) (pe_def df Gf h1 (pa_cons (pv 3) (pa_cons (pv 2) pa_nil)))) pa_nil)) pa_nil)) pa_nil))))) pss_nil)
    (pss_cons (ps_set (i := 5) scAl.nd rfl (Or.inl rfl) (pe_lst pa_nil))
    (pss_cons (ps_for PassesOwn.never rfl (pi_list (pe_def df Gf h1 (pa_cons (pv 4) (pa_cons (pv 1) pa_nil)))) (pg_name (i := 6) scAl.nd rfl (Or.inl rfl))
      (pss_one (ps_for PassesOwn.never rfl (pi_list (pe_def df Gf h1 (pa_cons (pv 4) (pa_cons (pv 2) pa_nil)))) (pg_name (i := 7) scAl.nd rfl (Or.inl rfl))
        (pss_one (ps_expr (pe_bm PySem.F.plainAttrs_list PySem.F.slot_list_append PySem.F.type_list_append mt_append (pv 5) (pa_cons (pe_tup (pa_cons (pv 3) (pa_cons (pe_callTy call_tuple_of rfl T.tuple (by decide +kernel) (pa_cons (pe_callB (cr_sortedF nm_ok hr) rfl T.sorted (by decide +kernel)
          (pa_cons (pe_op op_cat (pe_def df Gf h1 (pa_cons (pv 3) (pa_cons (pv 6) pa_nil))) (pe_def df Gf h1 (pa_cons (pv 3) (pa_cons (pv 7) pa_nil)))) pa_nil)) pa_nil)) pa_nil))) pa_nil)))))))
    (pss_one (ps_ret (pe_ifExp (pt_cmpR op_eq (pe_callB call_len_seq rfl T.len PySem.boot_len (pa_cons (pv 5) pa_nil)) pe_int (nomark _)) (pe_ix ix_list (pv 5) pe_int (fun _ _ => rfl))
      (pe_tup (pa_cons (pv 4) (pa_cons (pe_callTy call_tuple_of rfl T.tuple (by decide +kernel) (pa_cons (pe_callB (cr_sortedF nm_ok hr) rfl T.sorted (by decide +kernel) (pa_cons (pv 5) pa_nil)) pa_nil)) pa_nil))))))))))), ?_⟩
  cases wd with
  | lt nme i =>
    obtain ⟨a, rfl, hs⟩ := isW_lt hw
    refine ⟨_, rfl, a, _, 0, _, rfl, rfl, hs, atI_nat (j := 0) rfl, rfl, true, rfl, ?_⟩
    exact ⟨_, rfl, q _ _ (Gx.refl _ _ _) (isF_mk_lt hs)⟩
  | nd k wa wb =>
    obtain ⟨a, v1, v2, rfl, hs, hw1, hw2⟩ := isW_nd hw
    have hd' : 1 + max wa.depth wb.depth ≤ n + 1 := hd
    refine ⟨_, rfl, a, _, 0, _, rfl, rfl, hs, atI_nat (j := 0) rfl, rfl, false, by rw [dec_kd], ?_⟩
    refine ⟨_, rfl, a, _, 1, _, rfl, rfl, hs, atI_nat (j := 1) rfl, wa, v1, rfl, hw1, by omega, ho.left, fun H1 r1 g1 f1 => ?_⟩
    refine ⟨_, rfl, a, _, 2, _, rfl, rfl, g1.tu.seq hs, atI_nat (j := 2) rfl, wb, v2, rfl, g1.tu.isW hw2, by omega, ho.right, fun H2 r2 g2 f2 => ⟨_, _, rfl, ?_⟩⟩
    have f1 := g2.tu.isF f1
    have g2 := g1.trans g2
    refine ⟨_, rfl, a, _, 0, _, rfl, rfl, g2.tu.seq hs, atI_nat (j := 0) rfl, fun p hp => ⟨upd_same, kvOver, rfl, by decide, ?_⟩⟩
    rw [upd_upd]
    have g0 : Gx P0 [] H2 (upd H2 p (.dK (mergeK [] kvOver))) := Gx.new hp
    have f1 := g0.tu.isF f1
    have f2 := g0.tu.isF f2
    have g3 := g2.trans g0
    refine ⟨p, rfl, .inl ⟨_, .inl upd_same⟩, _, rfl, a, _, 0, _, rfl, rfl, g3.tu.seq hs, atI_nat (j := 0) rfl, _, dget_s upd_same (kvOver_get k), _, _, rfl, ?_⟩
    clear g1 g2 g0
    generalize upd H2 p (.dK (mergeK [] kvOver)) = H3 at f1 f2 g3
    have b1 := ho.left.bf
    have b2 := ho.right.bf
    have hsz : F.size (F.comb k (norm wa) (norm wb)) ≤ 8388608 := ho.bf.few
    cases hk : k.over with
    | none =>
      rw [F.comb_size_choice hk] at hsz
      refine ⟨_, rfl, rfl, true, rfl, ?_⟩
      refine rd_sorted (k := k) (fs := F.parts k (norm wa) ++ F.parts k (norm wb)) (fun Q H h => ⟨_, rfl, h⟩) (fun Q h => rd_cat (fun Q H h => ⟨_, rfl, h⟩) (fun Q H h => ⟨_, rfl, h⟩) (fun Q H h => ⟨_, rfl, h⟩) f1 f2 b1 b2 hsz h) (gath_bf b1 b2) fun H4 r g4 hr4 => ?_
      refine q H4 r (g3.trans g4) ?_
      have e : norm (.nd k wa wb) = F.nd k (F.srt (F.parts k (norm wa) ++ F.parts k (norm wb))) := by
        show F.comb k (norm wa) (norm wb) = _
        rw [comb_none hk]
        rfl
      rw [e]
      exact hr4
    | some o =>
      have al := al_facts hk ho
      refine ⟨_, rfl, rfl, false, ?_, ?_⟩
      · refine congrArg V.bl (decide_eq_false fun z => name_ne_empty o ?_)
        injection z
      refine ⟨(by show 0 ≤ sizeLine; exact Nat.zero_le _), fun D hD => ?_⟩
      have gD : Gx P0 [] H3 (upd H3 D (.lst [])) := Gx.new hD
      have hDH : H D = none := g3.old _ hD
      have hD0 : upd H3 D (.lst []) D = some (.lst []) := upd_same
      have f1 := gD.tu.isF f1
      have f2 := gD.tu.isF f2
      have g4 := g3.trans gD
      clear gD g3
      generalize upd H3 D (.lst []) = H4 at f1 f2 g4 hD0
      refine ⟨_, rfl, _, rfl, o, norm wa, r1, rfl, f1, fun H5 D4 xs4 g5 hn4 hx4 hA4 => ⟨D4, rfl, ⟨_, SqL.of hx4⟩, ?_⟩⟩
      have hD5 := g5.lstA (by simp) hD0
      have n4 : D4 ≠ D := fun z => by rw [z, hD0] at hn4; cases hn4
      have f2 := g5.tu.isF f2
      have g5 := g4.trans g5
      have l4 := hA4.len
      refine for_list (K := K) (xs := xs4) (fun i σ H10 => ∃ x6 x7 acc, σ = [some (.ref a), some r1, some r2, some (.str k.name), some (.str o.name), some (.ref D), x6, x7] ∧ Gx P0 [] H H10 ∧ Tu H5 H10 ∧ H10 D4 = some (.lst xs4) ∧ H10 D = some (.lst acc) ∧ AreF K H10 acc (pr k ((F.parts o (norm wa)).take i) (F.parts o (norm wb))))
        ⟨none, none, [], rfl, g5, Tu.refl _, hx4, hD5, AreF.nil⟩ (fun i σ H10 _ h10 => by obtain ⟨_, _, _, _, _, _, h, _⟩ := h10; exact SqL.of h) (fun i x σ H10 hi h10 => ?_) (fun σ H10 h10 => ?_)
      · obtain ⟨x6, x7, acc, rfl, g10, t10, a4, hD10, hacc⟩ := h10
        obtain ⟨fl, epl, hfl⟩ := hA4.get' hi
        have hil : i < (F.parts o (norm wa)).length := (List.getElem?_eq_some_iff.mp epl).1
        have ml := List.mem_of_getElem? epl
        refine ⟨_, rfl, _, rfl, o, norm wb, r2, rfl, t10.isF f2, fun H11 D5 xs5 g11 hn5 hx5 hA5 => ⟨D5, rfl, ⟨_, SqL.of hx5⟩, ?_⟩⟩
        have a4 := g11.lstA (by simp) a4
        have n5 : D5 ≠ D := fun z => by rw [z, hD10] at hn5; cases hn5
        have hD11 := g11.lstA (by simp) hD10
        have hfl := (t10.trans g11.tu).isF hfl
        have l5 := hA5.len
        refine for_list (K := K) (xs := xs5) (fun j σ H12 => ∃ x7 acc, σ = [some (.ref a), some r1, some r2, some (.str k.name), some (.str o.name), some (.ref D), some x, x7] ∧ Gx P0 [] H H12 ∧ Tu H11 H12 ∧ H12 D4 = some (.lst xs4) ∧ H12 D5 = some (.lst xs5) ∧ H12 D = some (.lst acc) ∧
            AreF K H12 acc (pr k ((F.parts o (norm wa)).take i) (F.parts o (norm wb)) ++ ((F.parts o (norm wb)).take j).map fun r => F.gath k fl r))
          ⟨x7, acc, rfl, g10.trans g11, Tu.refl _, a4, hx5, hD11, by rw [List.take_zero, List.map_nil, List.append_nil]; exact g11.tu.areF hacc⟩ (fun j σ H12 _ h12 => by obtain ⟨_, _, _, _, _, _, h, _⟩ := h12; exact SqL.of h) (fun j y σ H12 hj h12 => ?_) (fun σ H12 h12 => ?_)
        · obtain ⟨x7, acc, rfl, g12, t12, a4, a5, hD12, hacc⟩ := h12
          obtain ⟨fr, epr, hfr⟩ := hA5.get' hj
          have hjl : j < (F.parts o (norm wb)).length := (List.getElem?_eq_some_iff.mp epr).1
          have mr := List.mem_of_getElem? epr
          have s1 := F.mem_size ml
          have s2 := F.mem_size mr
          rw [F.parts_size] at s1 s2
          have s3 := al.sum
          refine ⟨_, rfl, .inl ⟨rfl, _, SqL.of hD12⟩, ?_⟩
          refine rd_sorted (k := k) (fs := F.parts k fl ++ F.parts k fr) (fun Q H h => ⟨_, rfl, h⟩) (fun Q h => rd_cat (fun Q H h => ⟨_, rfl, h⟩) (fun Q H h => ⟨_, rfl, h⟩) (fun Q H h => ⟨_, rfl, h⟩) (t12.isF hfl) (t12.isF hfr) (b1.part ml) (b2.part mr) (by omega) h) (gath_bf (b1.part ml) (b2.part mr)) fun H13 r g13 hr13 => ?_
          have hD13 := g13.lstA (by simp) hD12
          have tt := Tu.lst (o := .lst (acc ++ [r])) hD13
          refine ⟨D, acc, r, rfl, rfl, hD13, ?_, some y, acc ++ [r], rfl, (g12.trans g13).own hDH hD13, (t12.trans g13.tu).trans tt, ?_, ?_, upd_same, ?_⟩
          · have z := hacc.len
            rw [List.length_append, pr_len, List.length_map, List.length_take, List.length_take] at z
            rw [Nat.min_eq_left (Nat.le_of_lt hil), Nat.min_eq_left (Nat.le_of_lt hjl)] at z
            have z2 := Nat.mul_le_mul_right (F.parts o (norm wb)).length hil
            rw [Nat.succ_mul] at z2
            have z3 := al.len
            rw [z]
            exact big_of (by omega)
          · rw [upd_ne n4]
            exact g13.lstA (by simp) a4
          · rw [upd_ne n5]
            exact g13.lstA (by simp) a5
          · rw [take_snoc epr, List.map_append, ← List.append_assoc]
            exact ((g13.tu.trans tt).areF hacc).snoc (tt.isF hr13)
        · obtain ⟨x7, acc, rfl, g12, t12, a4, a5, hD12, hacc⟩ := h12
          refine ⟨some x, x7, acc, rfl, g12, (t10.trans g11.tu).trans t12, a4, hD12, ?_⟩
          rw [take_snoc epl, pr_append]
          rw [l5, List.take_of_length_le (Nat.le_refl _)] at hacc
          have e : pr k [fl] (F.parts o (norm wb)) = (F.parts o (norm wb)).map fun r => F.gath k fl r := by
            unfold pr
            rw [List.flatMap_singleton]
          rw [e]
          exact hacc
      · obtain ⟨x6, x7, acc, rfl, g10, t10, a4, hD10, hacc⟩ := h10
        rw [l4, List.take_of_length_le (Nat.le_refl _)] at hacc
        have hl := hacc.len
        have e : norm (.nd k wa wb) = F.mk o (pr k (F.parts o (norm wa)) (F.parts o (norm wb))) := by
          show F.comb k (norm wa) (norm wb) = _
          rw [comb_some hk]
        rw [e] at q
        have hbf := al.bf
        generalize pr k (F.parts o (norm wa)) (F.parts o (norm wb)) = L at q hacc hl hbf
        refine ⟨_, rfl, D, acc, rfl, .inl (SqL.of hD10), rfl, decide (acc.length = 1), ?_, ?_⟩
        · refine congrArg V.bl ?_
          by_cases h : acc.length = 1
          · rw [decide_eq_true h]
            exact decide_eq_true (by rw [h]; rfl)
          · rw [decide_eq_false h]
            refine decide_eq_false fun z => h ?_
            injection z with z
            omega
        by_cases h : acc.length = 1
        · rw [decide_eq_true h]
          rw [h] at hl
          match acc, L, h, hl, hacc, q, hD10 with
          | [v0], [f0], _, _, hacc, q, hD10 =>
            exact ⟨_, rfl, D, _, 0, _, rfl, rfl, SqL.of hD10, atI_nat (j := 0) rfl, q _ _ g10 hacc.inv.1⟩
        · rw [decide_eq_false h]
          refine rd_sorted (P0 := P0) (k := o) (fs := L) (fun Q H h => ⟨_, rfl, h⟩) (fun Q h => ⟨_, rfl, h _ D acc (Gx.refl _ _ _) hD10 hacc⟩) hbf fun H11 r g11 hr11 => ?_
          refine q _ _ (g10.trans g11) ?_
          rw [F.mk_many (by rw [← hl]; exact h)]
          exact hr11
theorem ok_al (T : Txt K mg w) (d : Def K mg "_law_al_form" sAl ["_law_word"]) (df : Def K mg "_law_al_forms" sAlF nAlF) (Gf : FnOk pg w K mg base CX0 1 df.f df.fd nAlF (spAlF K P0)) : ∀ n : Nat, FnOk pg w K mg base CX0 (1 + n) d.f d.fd ["_law_word"] (spAl K P0 n)
  | 0 => fn_none fun vs H Q E h => by
    obtain ⟨wd, v, _, _, hd, _⟩ := h
    have := wd.depth_pos
    omega
  | n + 1 => al_step T d df Gf n (ok_al T d df Gf n)
end
end K78
set_option Elab.async false
set_option linter.all false
set_option maxRecDepth 100000
/-! K78, part 21: turned forms, sizes, what the law lets through. -/
namespace K78
open PySem PySem.Spec PyProof.Rows L2 LamX
section
variable {pg : Program} {w : World} {K : PySem.W.Frag} {mg : Str → Option Value} {base : Heap} {P0 : Addr}
theorem sumCast : ∀ l : List Nat, (l.map Int.ofNat).sum = ((l.sum : Nat) : Int)
  | [] => rfl
  | a :: l => by rw [List.map_cons, List.sum_cons, List.sum_cons, sumCast l]; rfl
/-! ### turned forms -/
abbrev sTF : Stmt := topS 50
abbrev nTF : List Str := ["_law_form", "_law_kind", "_law_part"]
theorem scTF : FnScope nTF ["_law_form"] (defScope sTF) := ⟨rfl, rfl, rfl, by decide +kernel, rfl, by decide +kernel, by decide +kernel⟩
def spTF (K : PySem.W.Frag) (P0 : Addr) (n : Nat) : Sp := fun vs H Q _ => ∃ (f : F) (v : V), vs = [v] ∧ IsF K H v f ∧ Bf f ∧ F.depth f ≤ n ∧ ∀ H' r, Gx P0 [] H H' → IsF K H' r (F.turn f) → Q r H'
theorem turn_pos : ∀ f : F, F.pos f → F.pos (F.turn f) := by
  intro f
  induction f using F.rec (motive_2 := fun fs => F.poss fs → F.poss (F.turns fs)) with
  | lt n s => intro h; exact h
  | nd k fs ih =>
    intro h
    have h : fs ≠ [] ∧ F.poss fs := by simpa only [F.pos] using h
    rw [F.turn, F.pos]
    refine ⟨fun z => ?_, F.poss_iff.mpr fun g hg => F.poss_iff.mp (ih h.2) g (F.srt_mem.mp hg)⟩
    have z2 := congrArg List.length z
    rw [F.srt_length, F.turns_map, List.length_map] at z2
    exact h.1 (List.length_eq_zero_iff.mp z2)
  | nil => rename_i h; exact h
  | cons f fs ih1 ih2 =>
    rename_i h
    have h : F.pos f ∧ F.poss fs := by simpa only [F.poss] using h
    rw [F.turns, F.poss]
    exact ⟨ih1 h.1, ih2 h.2⟩
theorem Bf.turn {f : F} (h : Bf f) : Bf (F.turn f) := ⟨turn_pos f h.pos, F.turn_ok f h.ok, by rw [F.turn_size]; exact h.few, by rw [F.turn_depth]; exact h.low⟩
theorem Bf.mem {k : Kd} {fs : List F} (h : Bf (.nd k fs)) {f : F} (hf : f ∈ fs) : Bf f := h.part (k := k) (by rw [parts_nd_same]; exact hf)
theorem Bf.len {k : Kd} {fs : List F} (h : Bf (.nd k fs)) : fs.length ≤ 8388608 := by
  have z := F.parts_len (k := k) h.pos
  rw [parts_nd_same] at z
  exact Nat.le_trans z h.few
theorem tf_step (T : Txt K mg w) (d : Def K mg "_law_al_turned_form" sTF ["_law_form"]) (n : Nat) (G : FnOk pg w K mg base CX0 n d.f d.fd ["_law_form"] (spTF K P0 n)) : FnOk pg w K mg base CX0 (n + 1) d.f d.fd ["_law_form"] (spTF K P0 (n + 1)) := by
  refine d.fn.ok scTF (fun vs H Q E h => ?_) (fun cdv A outer s H vs Q E hr h => ?_)
  · obtain ⟨p, v, rfl, _⟩ := h
    rfl
  obtain ⟨f, v, rfl, hf, hb, hd, q⟩ := h
  refine ⟨_, pss_cons (ps_if (pt_cmpR op_eq (pe_ix ix_tup (pv 0) pe_int (fun _ _ => rfl)) pe_str (nomark _)) (pss_one (ps_ret (pe_tup (pa_cons pe_str (pa_cons (pe_ix ix_tup (pv 0) pe_int (fun _ _ => rfl)) (pa_cons (pe_op op_sub pe_int (pe_ix ix_tup (pv 0) pe_int (fun _ _ => rfl))) pa_nil)))))) pss_nil)
    (pss_cons (ps_set (i := 1) scTF.nd rfl (Or.inl rfl) (pe_dget (hu_of hr) (pe_disp (pps_cons pe_str pe_str (pps_cons pe_str pe_str (pps_cons pe_str pe_str (pps_cons pe_str pe_str pps_nil)))) rfl rfl (fun z => nomatch z) (by decide)) (pe_ix ix_tup (pv 0) pe_int (fun _ _ => rfl)) (fun _ _ => rfl)))
    (pss_one (ps_ret (pe_tup (pa_cons (pv 1) (pa_cons (pe_callTy call_tuple_of rfl T.tuple (by decide +kernel) (pa_cons (pe_callB (cr_sortedF nm_ok hr) rfl T.sorted (by decide +kernel) (pa_cons
      (pe_lc (own := [("_law_part", 2)]) (g := gName 2) (tt := tYes) rfl scTF.nd (pi_tup (pe_ix ix_tup (pv 0) pe_int (fun _ _ => rfl))) (blkOk_by (N := nTF) (sc := defScope sTF) (by decide +kernel))
        (fun _ _ _ _ _ => pg_name (i := 2) scTF.nd rfl (Or.inl rfl)) (fun _ _ _ _ _ => pts_nil) (fun _ _ _ _ _ => pe_def d G hr (pa_cons (pv 2) pa_nil))) pa_nil)) pa_nil)) pa_nil)))))), ?_⟩
  cases f with
  | lt nme i =>
    obtain ⟨a, rfl, hs⟩ := isF_lt hf
    refine ⟨_, rfl, a, _, 0, _, rfl, rfl, hs, atI_nat (j := 0) rfl, rfl, true, rfl, ?_⟩
    refine ⟨_, rfl, a, _, 1, _, rfl, rfl, hs, atI_nat (j := 1) rfl, _, rfl, a, _, 2, _, rfl, rfl, hs, atI_nat (j := 2) rfl, _, _, rfl, rfl, (by show 3 ≤ sizeLine; decide), fun t ht => ?_⟩
    refine q _ _ (Gx.new ht) ?_
    have e : -i = (0 : Int) - i := by omega
    show IsF K _ _ (F.lt nme (-i))
    rw [e]
    exact isF_mk_lt (SqT.of upd_same)
  | nd k fs =>
    obtain ⟨a, c, vs, rfl, hs, hc, hA⟩ := isF_nd hf
    have hd' : 1 + F.depths fs ≤ n + 1 := by simpa only [F.depth] using hd
    refine ⟨_, rfl, a, _, 0, _, rfl, rfl, hs, atI_nat (j := 0) rfl, rfl, false, by rw [dec_kd], ?_⟩
    refine fun p hp => ⟨upd_same, kvTurn, rfl, by decide, ?_⟩
    rw [upd_upd]
    have g0 : Gx P0 [] H (upd H p (.dK (mergeK [] kvTurn))) := Gx.new hp
    have hs0 := g0.tu.seq hs
    have hc0 := g0.tu.seq hc
    refine ⟨_, rfl, a, _, 0, _, rfl, rfl, hs0, atI_nat (j := 0) rfl, p, _, rfl, dget_s upd_same (kvTurn_get k), ?_⟩
    have hA0 := g0.tu.areF hA
    generalize upd H p (.dK (mergeK [] kvTurn)) = H0 at g0 hs0 hc0 hA0
    have hlen := hb.len
    dsimp only [gName, tRet]
    refine rd_sorted (P0 := P0) (k := k.dual) (fs := F.turns fs) (fun Q H h => ⟨_, rfl, h⟩) (fun Q h => ?_) (fun f hf => ?_) fun H4 r g4 hr4 => ?_
    · refine ⟨_, rfl, a, _, 1, _, rfl, rfl, hs0, atI_nat (j := 1) rfl, c, rfl, ⟨_, hc0⟩, fun D hD => ?_⟩
      refine it_tup (K := K) (xs := vs) (fun i H7 => Gx P0 [] H0 H7 ∧ ∃ acc, H7 D = some (.lst acc) ∧ AreF K H7 acc ((fs.take i).map F.turn))
        ⟨Gx.new hD, [], upd_same, AreF.nil⟩ (fun i H7 _ h7 => h7.1.tu.seq hc0) (fun i x H7 hi h7 => ?_) (fun H7 h7 => ?_)
      · obtain ⟨g7, acc, hD7, hacc⟩ := h7
        obtain ⟨p, ep, hp⟩ := hA0.get' hi
        have mp := List.mem_of_getElem? ep
        have dp := F.mem_depth mp
        refine ⟨rfl, _, rfl, p, x, rfl, g7.tu.isF hp, hb.mem mp, by omega, fun H8 r g8 hr8 => ?_⟩
        have hD8 := g8.lstA (by simp) hD7
        have tt := Tu.lst (o := .lst (acc ++ [r])) hD8
        refine ⟨acc, hD8, ?_, (g7.trans g8).own hD hD8, acc ++ [r], upd_same, ?_⟩
        · rw [hacc.len]
          refine big_of ?_
          rw [List.length_map, List.length_take]
          omega
        · rw [take_snoc ep, List.map_append]
          exact ((g8.tu.trans tt).areF hacc).snoc (tt.isF hr8)
      · obtain ⟨g7, acc, hD7, hacc⟩ := h7
        rw [hA.len, List.take_of_length_le (Nat.le_refl _), ← F.turns_map] at hacc
        exact h _ _ _ g7 hD7 hacc
    · rw [F.turns_map] at hf
      obtain ⟨g, hg, rfl⟩ := List.mem_map.mp hf
      exact (hb.mem hg).turn
    · refine q _ _ (g0.trans g4) ?_
      rw [F.turn]
      exact hr4
theorem ok_tf (T : Txt K mg w) (d : Def K mg "_law_al_turned_form" sTF ["_law_form"]) : ∀ n : Nat, FnOk pg w K mg base CX0 n d.f d.fd ["_law_form"] (spTF K P0 n)
  | 0 => fn_none fun vs H Q E h => by
    obtain ⟨f, v, _, _, _, hd, _⟩ := h
    cases f with
    | lt n s => simp [F.depth] at hd
    | nd k fs => simp [F.depth] at hd
  | n + 1 => tf_step T d n (ok_tf T d n)
/-! ### sizes -/
abbrev sFS : Stmt := topS 51
abbrev nFS : List Str := ["_law_form", "_law_part"]
theorem scFS : FnScope nFS ["_law_form"] (defScope sFS) := ⟨rfl, rfl, rfl, by decide +kernel, rfl, by decide +kernel, by decide +kernel⟩
def spFS (K : PySem.W.Frag) (P0 : Addr) (n : Nat) : Sp := fun vs H Q _ => ∃ (f : F) (v : V), vs = [v] ∧ IsF K H v f ∧ Bf f ∧ F.depth f ≤ n ∧ ∀ H', Gx P0 [] H H' → Q (.int (F.size f)) H'
theorem fs_step (T : Txt K mg w) (d : Def K mg "_law_fm_size" sFS ["_law_form"]) (n : Nat) (G : FnOk pg w K mg base CX0 n d.f d.fd ["_law_form"] (spFS K P0 n)) : FnOk pg w K mg base CX0 (n + 1) d.f d.fd ["_law_form"] (spFS K P0 (n + 1)) := by
  refine d.fn.ok scFS (fun vs H Q E h => ?_) (fun cdv A outer s H vs Q E hr h => ?_)
  · obtain ⟨p, v, rfl, _⟩ := h
    rfl
  obtain ⟨f, v, rfl, hf, hb, hd, q⟩ := h
  refine ⟨_, pss_one (ps_ret (pe_ifExp (pt_cmpR op_eq (pe_ix ix_tup (pv 0) pe_int (fun _ _ => rfl)) pe_str (nomark _)) pe_int (pe_callB (cr_sum rfl) rfl T.sum (by decide +kernel) (pa_cons
      (pe_lc (own := [("_law_part", 1)]) (g := gName 1) (tt := tYes) rfl scFS.nd (pi_tup (pe_ix ix_tup (pv 0) pe_int (fun _ _ => rfl))) (blkOk_by (N := nFS) (sc := defScope sFS) (by decide +kernel))
        (fun _ _ _ _ _ => pg_name (i := 1) scFS.nd rfl (Or.inl rfl)) (fun _ _ _ _ _ => pts_nil) (fun _ _ _ _ _ => pe_def d G hr (pa_cons (pv 1) pa_nil))) pa_nil)))), ?_⟩
  cases f with
  | lt nme i =>
    obtain ⟨a, rfl, hs⟩ := isF_lt hf
    refine ⟨_, rfl, a, _, 0, _, rfl, rfl, hs, atI_nat (j := 0) rfl, rfl, true, rfl, ?_⟩
    exact q H (Gx.refl _ _ _)
  | nd k fs =>
    obtain ⟨a, c, vs, rfl, hs, hc, hA⟩ := isF_nd hf
    have hd' : 1 + F.depths fs ≤ n + 1 := by simpa only [F.depth] using hd
    refine ⟨_, rfl, a, _, 0, _, rfl, rfl, hs, atI_nat (j := 0) rfl, rfl, false, by rw [dec_kd], ?_⟩
    have hlen := hb.len
    refine ⟨_, rfl, a, _, 1, _, rfl, rfl, hs, atI_nat (j := 1) rfl, c, rfl, ⟨_, hc⟩, fun D hD => ?_⟩
    refine it_tup (K := K) (xs := vs) (fun i H7 => Gx P0 [] H H7 ∧ H7 D = some (.lst ((((fs.take i).map F.size).map Int.ofNat).map V.int)))
      ⟨Gx.new hD, upd_same⟩ (fun i H7 _ h7 => h7.1.tu.seq hc) (fun i x H7 hi h7 => ?_) (fun H7 h7 => ?_)
    · obtain ⟨g7, hD7⟩ := h7
      obtain ⟨p, ep, hp⟩ := hA.get' hi
      have mp := List.mem_of_getElem? ep
      have dp := F.mem_depth mp
      refine ⟨rfl, _, rfl, p, x, rfl, g7.tu.isF hp, hb.mem mp, by omega, fun H8 g8 => ?_⟩
      have hD8 := g8.lstA (by simp) hD7
      refine ⟨_, hD8, ?_, (g7.trans g8).own hD hD8, ?_⟩
      · refine big_of ?_
        rw [List.length_map, List.length_map, List.length_map, List.length_take]
        omega
      · rw [upd_same, take_snoc ep, List.map_append, List.map_append, List.map_append]
        rfl
    · obtain ⟨g7, hD7⟩ := h7
      rw [hA.len, List.take_of_length_le (Nat.le_refl _)] at hD7
      refine ⟨D, _, rfl, SqL.of hD7, ?_⟩
      have z := q H7 g7
      rw [sumCast, ← F.sizes_sum]
      rw [F.size] at z
      exact z
theorem ok_fs (T : Txt K mg w) (d : Def K mg "_law_fm_size" sFS ["_law_form"]) : ∀ n : Nat, FnOk pg w K mg base CX0 n d.f d.fd ["_law_form"] (spFS K P0 n)
  | 0 => fn_none fun vs H Q E h => by
    obtain ⟨f, v, _, _, _, hd, _⟩ := h
    cases f with
    | lt n s => simp [F.depth] at hd
    | nd k fs => simp [F.depth] at hd
  | n + 1 => fs_step T d n (ok_fs T d n)
/-! ### let through -/
abbrev sLet : Stmt := topS 53
theorem scLet : FnScope ["_law_word"] ["_law_word"] (defScope sLet) := ⟨rfl, rfl, rfl, by decide +kernel, rfl, by decide +kernel, by decide +kernel⟩
def spLet (K : PySem.W.Frag) (P0 : Addr) : Sp := fun vs H Q _ => ∃ (wd : W) (v : V), vs = [v] ∧ IsW K H v wd ∧ wd.ok nm ∧ wd.depth ≤ 10 ∧ ∀ H', Gx P0 [] H H' → Q (.bl (decide (Let wd))) H'
theorem ok_let (d : Def K mg "_law_fm_is_let" sLet ["_law_word"]) (dl : Def K mg "_law_dr_letters" sLets ["_law_word"]) (dd : Def K mg "_law_dr_depth" sDep ["_law_word"]) (ds : Def K mg "_law_fm_size" sFS ["_law_form"]) (da : Def K mg "_law_al_form" sAl ["_law_word"])
    (Gl : FnOk pg w K mg base CX0 20 dl.f dl.fd ["_law_word"] (spLets K P0 10)) (Gd : FnOk pg w K mg base CX0 20 dd.f dd.fd ["_law_word"] (spDep K P0 10)) (Gs : FnOk pg w K mg base CX0 20 ds.f ds.fd ["_law_form"] (spFS K P0 20)) (Ga : FnOk pg w K mg base CX0 20 da.f da.fd ["_law_word"] (spAl K P0 8)) :
    FnOk pg w K mg base CX0 21 d.f d.fd ["_law_word"] (spLet K P0) := by
  refine d.fn.ok scLet (fun vs H Q E h => ?_) (fun cdv A outer s H vs Q E hr h => ?_)
  · obtain ⟨p, v, rfl, _⟩ := h
    rfl
  obtain ⟨wd, v, rfl, hw, ho, hd, q⟩ := h
  refine ⟨_, pss_one (ps_ret (pe_and (pe_cmpR op_lt (pe_def dl Gl hr (pa_cons (pv 0) pa_nil)) pe_int rfl) (pe_and (pe_cmpR op_lt (pe_def dd Gd hr (pa_cons (pv 0) pa_nil)) pe_int rfl) (pe_one (pe_cmpR op_lt (pe_def ds Gs hr (pa_cons (pe_def da Ga hr (pa_cons (pv 0) pa_nil)) pa_nil)) pe_int rfl))))), ?_⟩
  refine ⟨_, rfl, wd, v, rfl, hw, hd, fun H1 g1 => ?_⟩
  refine ⟨_, _, rfl, rfl, decide (wd.letters < 25), ?_, ?_⟩
  · exact congrArg V.bl (decide_eq_decide.mpr (by omega))
  by_cases h1 : wd.letters < 25
  · rw [decide_eq_true h1]
    refine ⟨_, rfl, wd, v, rfl, g1.tu.isW hw, hd, fun H2 g2 => ?_⟩
    have g2 := g1.trans g2
    refine ⟨_, _, rfl, rfl, decide (wd.depth < 9), ?_, ?_⟩
    · exact congrArg V.bl (decide_eq_decide.mpr (by omega))
    by_cases h2 : wd.depth < 9
    · rw [decide_eq_true h2]
      have ao : AOk wd := ⟨ho, by omega, by omega⟩
      refine ⟨_, rfl, wd, v, rfl, g2.tu.isW hw, by omega, ao, fun H3 r g3 hr3 => ?_⟩
      refine ⟨norm wd, r, rfl, hr3, ao.bf, ao.bf.low, fun H4 g4 => ?_⟩
      have z := q H4 ((g2.trans g3).trans g4)
      refine ⟨_, _, rfl, rfl, ?_⟩
      have e : decide (Let wd) = decide ((F.size (norm wd) : Int) < 201) := decide_eq_decide.mpr ⟨fun h => by have := h.2.2; omega, fun h => ⟨h1, h2, by omega⟩⟩
      rw [e] at z
      exact z
    · rw [decide_eq_false h2]
      have z := q H2 g2
      rw [decide_eq_false (fun h => h2 h.2.1)] at z
      exact z
  · rw [decide_eq_false h1]
    have z := q H1 g1
    rw [decide_eq_false (fun h => h1 h.1)] at z
    exact z
end
end K78
set_option Elab.async false
set_option linter.all false
set_option maxRecDepth 100000
/-! K78, part 22: words moved. -/
namespace K78
open PySem PySem.Spec PyProof.Rows L2 LamX
def W.head : W → Str
  | .lt _ _ => "letter"
  | .nd k _ _ => k.name
section
variable {pg : Program} {w : World} {K : PySem.W.Frag} {mg : Str → Option Value} {base : Heap} {P0 : Addr}
theorem isW_head {H : Hp} {v : V} {wd : W} (h : IsW K H v wd) : ∃ a xs, v = .ref a ∧ SqT K H a xs ∧ xs[0]? = some (.str wd.head) := by
  cases wd with
  | lt n s => obtain ⟨a, e, h⟩ := isW_lt h; exact ⟨a, _, e, h, rfl⟩
  | nd k b c => obtain ⟨a, v1, v2, e, h, _⟩ := isW_nd h; exact ⟨a, _, e, h, rfl⟩
theorem rd_head {H : Hp} {v : V} {wd : W} {x : Str} {i j : Nat} {σ : L2.St} {Q : Bool → Hp → Prop} (hi : σ[i]? = some (some v)) (hv : IsW K H v wd) (hj : σ[j]? = some (some (.str x))) (q : Q (decide (wd.head = x)) H) :
    tTest (tOp rEq (tOp (rIxT K) (tVar i) (tC (.int 0))) (tVar j)) σ H Q := by
  obtain ⟨a, xs, rfl, hs, h0⟩ := isW_head hv
  refine ⟨_, hi, a, xs, 0, _, rfl, rfl, hs, atI_nat (j := 0) h0, _, hj, rfl, decide (wd.head = x), ?_, q⟩
  refine congrArg V.bl ?_
  by_cases h : wd.head = x
  · rw [decide_eq_true h, h]
    exact decide_eq_true rfl
  · rw [decide_eq_false h]
    exact decide_eq_false fun z => h (by injection z)
theorem seq_if {t r : TS} {D : Ends} {σ : L2.St} {H : Hp} (Inv : Hp → Prop) (h : ∀ N : L2.St → Hp → Prop, (∀ H', Inv H' → N σ H') → t { D with nx := N } σ H) (hr : ∀ H', Inv H' → r D σ H') : tSeq t r D σ H := h (r D) hr
/-- the list of moved words so far -/
structure MInv (K : PySem.W.Frag) (P0 D d : Addr) (wd : W) (H0 : Hp) (n : Nat) (H : Hp) : Prop where
  g : Gx P0 [] H0 H
  di : Dice H d
  acc : ∃ acc, H D = some (.lst acc) ∧ 0 < acc.length ∧ acc.length ≤ n ∧ ∀ v ∈ acc, ∃ w', IsW K H v w' ∧ Alk nm3 wd w'
theorem MInv.mono {D d : Addr} {wd : W} {H0 H : Hp} {n m : Nat} (h : MInv K P0 D d wd H0 n H) (hn : n ≤ m) : MInv K P0 D d wd H0 m H := by
  obtain ⟨g, di, acc, h1, h2, h3, h4⟩ := h
  exact ⟨g, di, acc, h1, h2, Nat.le_trans h3 hn, h4⟩
theorem MInv.go {D d : Addr} {wd : W} {H0 H H' : Hp} {n : Nat} (h : MInv K P0 D d wd H0 n H) (g1 : Gx P0 [] H H') : MInv K P0 D d wd H0 n H' := by
  obtain ⟨g, di, acc, h1, h2, h3, h4⟩ := h
  refine ⟨g.trans g1, g1.dice di, acc, g1.lstA (by simp) h1, h2, h3, fun v hv => ?_⟩
  obtain ⟨w', e1, e2⟩ := h4 v hv
  exact ⟨w', g1.tu.isW e1, e2⟩
theorem rd_app {D d : Addr} {wd : W} {H0 H : Hp} {n : Nat} {te : TE} {σ : L2.St} {E : Ends} (hn : n ≤ 100) (h : MInv K P0 D d wd H0 n H) (hD : H0 D = none) (hd : D ≠ d) (hs : σ[6]? = some (some (.ref D)))
    (ht : ∀ Q : VK, (∀ H1 r w', Gx P0 [] H H1 → IsW K H1 r w' → Alk nm3 wd w' → Q r H1) → te σ H Q) (hN : ∀ H', MInv K P0 D d wd H0 (n + 1) H' → E.nx σ H') :
    tDrop (tBM K "list" rAppend (tVar 6) (tCons te tNil)) E σ H := by
  obtain ⟨g, di, acc, h1, h2, h3, h4⟩ := h
  refine ⟨_, hs, .inl ⟨rfl, _, SqL.of h1⟩, ?_⟩
  refine ht _ fun H1 r w' g1 hr ha => ?_
  have h5 := g1.lstA (by simp) h1
  have tt := Tu.lst (o := .lst (acc ++ [r])) h5
  refine ⟨D, acc, r, rfl, rfl, h5, big_of (by omega), hN _ ⟨(g.trans g1).own hD h5, ?_, acc ++ [r], upd_same, ?_, ?_, fun v hv => ?_⟩⟩
  · obtain ⟨a, b, c, hx⟩ := g1.dice di
    exact ⟨a, b, c, by rw [upd_ne (Ne.symm hd)]; exact hx⟩
  · rw [List.length_append, List.length_singleton]
    omega
  · rw [List.length_append, List.length_singleton]
    omega
  · rcases List.mem_append.mp hv with hv | hv
    · obtain ⟨w2, e1, e2⟩ := h4 v hv
      exact ⟨w2, (g1.tu.trans tt).isW e1, e2⟩
    · rw [List.mem_singleton.mp hv]
      exact ⟨w', tt.isW hr, ha⟩
theorem head_k {wd : W} {k : Kd} (h : wd.head = k.name) : ∃ a b, wd = .nd k a b := by
  cases wd with
  | lt n s => exact absurd h.symm k.name_ne
  | nd l a b => exact ⟨a, b, by rw [Kd.name_inj h]⟩
theorem head_e {wd : W} : wd.head ≠ ("" : Str) := by
  cases wd with
  | lt n s => exact (by decide +kernel : ("letter" : Str) ≠ "")
  | nd l a b => exact name_ne_empty l
abbrev sMov : Stmt := topS 48
abbrev nMov : List Str := ["_law_dice_here", "_law_word", "_law_kind", "_law_one", "_law_other", "_law_over", "_law_some", "_law_back"]
theorem scMov : FnScope nMov ["_law_dice_here", "_law_word"] (defScope sMov) := ⟨rfl, rfl, rfl, by decide +kernel, rfl, by decide +kernel, by decide +kernel⟩
def spMov (K : PySem.W.Frag) (P0 : Addr) : Sp := fun vs H Q _ => ∃ (d : Addr) (v : V) (k : Kd) (wa wb : W), vs = [.ref d, v] ∧ Dice H d ∧ IsW K H v (.nd k wa wb) ∧ wa.ok nm ∧ wb.ok nm ∧ wa.depth ≤ 50 ∧ wb.depth ≤ 50 ∧
  ∀ H' r wd', Gx P0 [d] H H' → Dice H' d → IsW K H' r wd' → Alk nm3 (.nd k wa wb) wd' → Q r H'
theorem mem_rep {v : V} {acc : List V} (h : v ∈ acc ++ (List.replicate (2 : Int).toNat (cutV acc (some 1) none)).flatten) : v ∈ acc := by
  rcases List.mem_append.mp h with h | h
  · exact h
  · obtain ⟨l, hl, hv⟩ := List.mem_flatten.mp h
    rw [List.eq_of_mem_replicate hl] at hv
    unfold cutV at hv
    exact List.mem_of_mem_drop (List.mem_of_mem_take hv)
set_option maxHeartbeats 4000000 in
theorem ok_mov (d : Def K mg "_law_al_moved" sMov ["_law_dice_here", "_law_word"]) (dp : Def K mg "_law_pick" sPick nPick) (Gp : FnOk pg w K mg base CX0 2 dp.f dp.fd nPick (spPick K P0)) : FnOk pg w K mg base CX0 3 d.f d.fd ["_law_dice_here", "_law_word"] (spMov K P0) := by
  refine d.fn.ok scMov (fun vs H Q E h => ?_) (fun cdv A outer s H vs Q E hr h => ?_)
  · obtain ⟨d, v, k, wa, wb, rfl, _⟩ := h
    rfl
  obtain ⟨d0, v, k, wa, wb, rfl, hd, hw, oa, ob, da, db, q⟩ := h
  refine ⟨_, pss_cons (ps_asg (pv 1) (pg_tup rfl (pgs_cons (pg_name (i := 2) scMov.nd rfl (Or.inl rfl)) (pgs_cons (pg_name (i := 3) scMov.nd rfl (Or.inl rfl)) (pgs_cons (pg_name (i := 4) scMov.nd rfl (Or.inl rfl)) pgs_nil)))))
    (pss_cons (ps_set (i := 5) scMov.nd rfl (Or.inl rfl) (pe_dget2 (hu_of hr) (pe_disp (pps_cons pe_str pe_str (pps_cons pe_str pe_str pps_nil)) rfl rfl (fun z => nomatch z) (by decide)) (pv 2) pe_str ⟨rfl, rfl, rfl, rfl⟩))
    (pss_cons (ps_set (i := 6) scMov.nd rfl (Or.inl rfl) (pe_lst (pa_cons (pe_tup (pa_cons (pv 2) (pa_cons (pv 4) (pa_cons (pv 3) pa_nil)))) pa_nil)))
    (pss_cons (ps_if (pt_cmpR op_eq (pe_ix ix_tup (pv 3) pe_int (fun _ _ => rfl)) (pv 2) (nomark _)) (pss_one (ps_expr (pe_bm PySem.F.plainAttrs_list PySem.F.slot_list_append PySem.F.type_list_append mt_append (pv 6)
        (pa_cons (pe_tup (pa_cons (pv 2) (pa_cons (pe_ix ix_tup (pv 3) pe_int (fun _ _ => rfl)) (pa_cons (pe_tup (pa_cons (pv 2) (pa_cons (pe_ix ix_tup (pv 3) pe_int (fun _ _ => rfl)) (pa_cons (pv 4) pa_nil)))) pa_nil)))) pa_nil)))) pss_nil)
    (pss_cons (ps_if (pt_cmpR op_eq (pe_ix ix_tup (pv 4) pe_int (fun _ _ => rfl)) (pv 2) (nomark _)) (pss_one (ps_expr (pe_bm PySem.F.plainAttrs_list PySem.F.slot_list_append PySem.F.type_list_append mt_append (pv 6)
        (pa_cons (pe_tup (pa_cons (pv 2) (pa_cons (pe_tup (pa_cons (pv 2) (pa_cons (pv 3) (pa_cons (pe_ix ix_tup (pv 4) pe_int (fun _ _ => rfl)) pa_nil)))) (pa_cons (pe_ix ix_tup (pv 4) pe_int (fun _ _ => rfl)) pa_nil)))) pa_nil)))) pss_nil)
    (pss_cons (ps_if (pt_cmpR op_eq (pe_ix ix_tup (pv 3) pe_int (fun _ _ => rfl)) (pv 5) (nomark _)) (pss_one (ps_expr (pe_bm PySem.F.plainAttrs_list PySem.F.slot_list_append PySem.F.type_list_append mt_append (pv 6)
        (pa_cons (pe_tup (pa_cons (pv 5) (pa_cons (pe_tup (pa_cons (pv 2) (pa_cons (pe_ix ix_tup (pv 3) pe_int (fun _ _ => rfl)) (pa_cons (pv 4) pa_nil)))) (pa_cons (pe_tup (pa_cons (pv 2) (pa_cons (pe_ix ix_tup (pv 3) pe_int (fun _ _ => rfl)) (pa_cons (pv 4) pa_nil)))) pa_nil)))) pa_nil)))) pss_nil)
    (pss_cons (ps_if (pt_cmpR op_eq (pe_ix ix_tup (pv 4) pe_int (fun _ _ => rfl)) (pv 5) (nomark _)) (pss_one (ps_expr (pe_bm PySem.F.plainAttrs_list PySem.F.slot_list_append PySem.F.type_list_append mt_append (pv 6)
        (pa_cons (pe_tup (pa_cons (pv 5) (pa_cons (pe_tup (pa_cons (pv 2) (pa_cons (pv 3) (pa_cons (pe_ix ix_tup (pv 4) pe_int (fun _ _ => rfl)) pa_nil)))) (pa_cons (pe_tup (pa_cons (pv 2) (pa_cons (pv 3) (pa_cons (pe_ix ix_tup (pv 4) pe_int (fun _ _ => rfl)) pa_nil)))) pa_nil)))) pa_nil)))) pss_nil)
    (pss_cons (ps_set (i := 7) scMov.nd rfl (Or.inl rfl) (pe_dget2 (hu_of hr) (pe_disp (pps_cons pe_str pe_str (pps_cons pe_str pe_str pps_nil)) rfl rfl (fun z => nomatch z) (by decide)) (pv 2) pe_str ⟨rfl, rfl, rfl, rfl⟩))
    (pss_cons (ps_if (PW.pt (pw_and (pt_cmpR op_eq (pe_ix ix_tup (pv 3) pe_int (fun _ _ => rfl)) (pv 7) (nomark _)) (pw_and (pt_cmpR op_eq (pe_ix ix_tup (pv 4) pe_int (fun _ _ => rfl)) (pv 7) (nomark _))
        (pw_and1 (pt_cmpR (op_eqD hr.units) (pe_ix ix_tup (pv 3) pe_int (fun _ _ => rfl)) (pe_ix ix_tup (pv 4) pe_int (fun _ _ => rfl)) (nomark _)))))) (pss_one (ps_expr (pe_bm PySem.F.plainAttrs_list PySem.F.slot_list_append PySem.F.type_list_append mt_append (pv 6)
        (pa_cons (pe_tup (pa_cons (pv 7) (pa_cons (pe_ix ix_tup (pv 3) pe_int (fun _ _ => rfl)) (pa_cons (pe_tup (pa_cons (pv 2) (pa_cons (pe_ix ix_tup (pv 3) pe_int (fun _ _ => rfl)) (pa_cons (pe_ix ix_tup (pv 4) pe_int (fun _ _ => rfl)) pa_nil)))) pa_nil)))) pa_nil)))) pss_nil)
    (pss_one (ps_ret (pe_def dp Gp hr (pa_cons (pv 0) (pa_cons (pe_op op_cat (pv 6) (pe_op op_rep (pe_slice sl_list (pv 6) (po_some pe_int) po_none) pe_int)) pa_nil))))))))))))), ?_⟩
  obtain ⟨a, v1, v2, rfl, hs, hw1, hw2⟩ := isW_nd hw
  refine ⟨_, rfl, a, _, rfl, hs, rfl, _, _, rfl, _, _, rfl, _, _, rfl, rfl, ?_⟩
  refine fun p hp => ⟨upd_same, kvOver, rfl, by decide, ?_⟩
  rw [upd_upd]
  have g0 : Gx P0 [] H (upd H p (.dK (mergeK [] kvOver))) := Gx.new hp
  refine ⟨p, rfl, .inl ⟨_, .inl upd_same⟩, _, rfl, _, dget_s upd_same (kvOver_get k), ?_⟩
  obtain ⟨ov, hov, hov2⟩ : ∃ ov : Str, ((k.over.map fun o => V.str o.name).getD (.str "")) = .str ov ∧ ((∃ o, k.over = some o ∧ ov = o.name) ∨ ov = "") := by
    cases k.over with
    | none => exact ⟨_, rfl, .inr rfl⟩
    | some o => exact ⟨_, rfl, .inl ⟨o, rfl, rfl⟩⟩
  rw [hov]
  have hw1 := g0.tu.isW hw1
  have hw2 := g0.tu.isW hw2
  have hd := g0.dice hd
  clear hs
  generalize upd H p (.dK (mergeK [] kvOver)) = H0 at g0 hw1 hw2 hd
  refine ⟨_, rfl, _, rfl, _, rfl, (by show 3 ≤ sizeLine; decide), fun t ht => ⟨(by show 1 ≤ sizeLine; decide), fun D hD => ?_⟩⟩
  have hDH : H0 D = none := by
    by_cases e : D = t
    · rw [e, upd_same] at hD
      cases hD
    · rwa [upd_ne e] at hD
  have hDd : D ≠ d0 := (hd.ne hDH).symm
  have gt : Gx P0 [] H0 (upd (upd H0 t (.tup [.str k.name, v2, v1])) D (.lst [.ref t])) := (Gx.new ht).trans (Gx.new hD)
  have i1 : MInv K P0 D d0 (.nd k wa wb) H0 1 (upd (upd H0 t (.tup [.str k.name, v2, v1])) D (.lst [.ref t])) := by
    refine ⟨gt, gt.dice hd, _, upd_same, Nat.le_refl _, Nat.le_refl _, fun v hv => ?_⟩
    rw [List.mem_singleton.mp hv]
    refine ⟨_, isW_mk_nd (SqT.of ?_) (gt.tu.isW hw2) (gt.tu.isW hw1), mv_sides nm3 k wa wb⟩
    rw [upd_ne (ne_of_none upd_same hD), upd_same]
  clear gt
  generalize upd (upd H0 t (.tup [.str k.name, v2, v1])) D (.lst [.ref t]) = H1 at i1
  dsimp only [gName]
  -- one is of the kind
  refine seq_if (MInv K P0 D d0 (.nd k wa wb) H0 2) (fun N hN => ?_) (fun H2 i2 => ?_)
  · dsimp only [tIfS]
    refine rd_head (K := K) (i := 3) (j := 2) (wd := wa) (x := k.name) (by rfl) (i1.g.tu.isW hw1) (by rfl) ?_
    by_cases h : wa.head = k.name
    · rw [decide_eq_true h]
      obtain ⟨b, c, rfl⟩ := head_k h
      obtain ⟨a1, u1, u2, rfl, hs1, x1, x2⟩ := isW_nd (i1.g.tu.isW hw1)
      refine rd_app (by decide) i1 hDH hDd (by rfl) (fun Q' h => ?_) fun H' i' => hN _ i'
      refine ⟨_, rfl, _, rfl, a1, _, 1, _, rfl, rfl, hs1, atI_nat (j := 1) rfl, _, rfl, _, rfl, a1, _, 2, _, rfl, rfl, hs1, atI_nat (j := 2) rfl, _, rfl, (by show 3 ≤ sizeLine; decide), fun t ht => ⟨(by show 3 ≤ sizeLine; decide), fun u hu => ?_⟩⟩
      have gg := (Gx.new (P := P0) (ex := []) (o := .tup [.str k.name, u2, v2]) ht).trans (Gx.new (o := .tup [.str k.name, u1, .ref t]) hu)
      refine h _ _ _ gg (isW_mk_nd (SqT.of upd_same) (gg.tu.isW x1) (isW_mk_nd (SqT.of ?_) (gg.tu.isW x2) ((i1.g.trans gg).tu.isW hw2))) (mv_right nm3 k b c wb)
      rw [upd_ne (ne_of_none upd_same hu), upd_same]
    · rw [decide_eq_false h]
      exact hN _ (i1.mono (by decide))
  -- other is of the kind
  refine seq_if (MInv K P0 D d0 (.nd k wa wb) H0 3) (fun N hN => ?_) (fun H3 i3 => ?_)
  · dsimp only [tIfS]
    refine rd_head (K := K) (i := 4) (j := 2) (wd := wb) (x := k.name) (by rfl) (i2.g.tu.isW hw2) (by rfl) ?_
    by_cases h : wb.head = k.name
    · rw [decide_eq_true h]
      obtain ⟨b, c, rfl⟩ := head_k h
      obtain ⟨a1, u1, u2, rfl, hs1, x1, x2⟩ := isW_nd (i2.g.tu.isW hw2)
      refine rd_app (by decide) i2 hDH hDd (by rfl) (fun Q' h => ?_) fun H' i' => hN _ i'
      refine ⟨_, rfl, _, rfl, _, rfl, _, rfl, a1, _, 1, _, rfl, rfl, hs1, atI_nat (j := 1) rfl, (by show 3 ≤ sizeLine; decide), fun t ht => ⟨_, rfl, a1, _, 2, _, rfl, rfl, (Tu.new ht).seq hs1, atI_nat (j := 2) rfl, (by show 3 ≤ sizeLine; decide), fun u hu => ?_⟩⟩
      have gg := (Gx.new (P := P0) (ex := []) (o := .tup [.str k.name, v1, u1]) ht).trans (Gx.new (o := .tup [.str k.name, .ref t, u2]) hu)
      refine h _ _ _ gg (isW_mk_nd (SqT.of upd_same) (isW_mk_nd (SqT.of ?_) ((i2.g.trans gg).tu.isW hw1) (gg.tu.isW x1)) (gg.tu.isW x2)) (mv_left nm3 k wa b c)
      rw [upd_ne (ne_of_none upd_same hu), upd_same]
    · rw [decide_eq_false h]
      exact hN _ (i2.mono (by decide))
  -- one is of what it goes over
  refine seq_if (MInv K P0 D d0 (.nd k wa wb) H0 4) (fun N hN => ?_) (fun H4 i4 => ?_)
  · dsimp only [tIfS]
    refine rd_head (K := K) (i := 3) (j := 5) (wd := wa) (x := ov) (by rfl) (i3.g.tu.isW hw1) (by rfl) ?_
    by_cases h : wa.head = ov
    · rw [decide_eq_true h]
      rcases hov2 with ⟨o, ho, e⟩ | e
      · rw [e] at h
        obtain ⟨b, c, rfl⟩ := head_k h
        obtain ⟨a1, u1, u2, rfl, hs1, x1, x2⟩ := isW_nd (i3.g.tu.isW hw1)
        refine rd_app (by decide) i3 hDH hDd (by rfl) (fun Q' h => ?_) fun H' i' => hN _ i'
        refine ⟨_, rfl, _, rfl, _, rfl, a1, _, 1, _, rfl, rfl, hs1, atI_nat (j := 1) rfl, _, rfl, (by show 3 ≤ sizeLine; decide), fun t ht => ?_⟩
        refine ⟨_, rfl, _, rfl, a1, _, 2, _, rfl, rfl, (Tu.new ht).seq hs1, atI_nat (j := 2) rfl, _, rfl, (by show 3 ≤ sizeLine; decide), fun u hu => ⟨(by show 3 ≤ sizeLine; decide), fun z hz => ?_⟩⟩
        have g1 : Gx P0 [] _ _ := Gx.new (o := .tup [.str k.name, u1, v2]) ht
        have g2 : Gx P0 [] _ _ := Gx.new (o := .tup [.str k.name, u2, v2]) hu
        have g3 : Gx P0 [] _ _ := Gx.new (o := .tup [.str ov, .ref t, .ref u]) hz
        have gg := (g1.trans g2).trans g3
        refine h _ _ (.nd o (.nd k b wb) (.nd k c wb)) gg (isW_mk_nd (v1 := .ref t) (v2 := .ref u) (SqT.of (by rw [← e]; exact upd_same)) (isW_mk_nd ((g2.trans g3).tu.seq (SqT.of upd_same)) (gg.tu.isW x1) ((i3.g.trans gg).tu.isW hw2)) (isW_mk_nd (g3.tu.seq (SqT.of upd_same)) (gg.tu.isW x2) ((i3.g.trans gg).tu.isW hw2))) (mv_over1 nm3 b c wb ho)
      · rw [e] at h
        exact absurd h head_e
    · rw [decide_eq_false h]
      exact hN _ (i3.mono (by decide))
  -- other is of what it goes over
  refine seq_if (MInv K P0 D d0 (.nd k wa wb) H0 5) (fun N hN => ?_) (fun H5 i5 => ?_)
  · dsimp only [tIfS]
    refine rd_head (K := K) (i := 4) (j := 5) (wd := wb) (x := ov) (by rfl) (i4.g.tu.isW hw2) (by rfl) ?_
    by_cases h : wb.head = ov
    · rw [decide_eq_true h]
      rcases hov2 with ⟨o, ho, e⟩ | e
      · rw [e] at h
        obtain ⟨b, c, rfl⟩ := head_k h
        obtain ⟨a1, u1, u2, rfl, hs1, x1, x2⟩ := isW_nd (i4.g.tu.isW hw2)
        refine rd_app (by decide) i4 hDH hDd (by rfl) (fun Q' h => ?_) fun H' i' => hN _ i'
        refine ⟨_, rfl, _, rfl, _, rfl, _, rfl, a1, _, 1, _, rfl, rfl, hs1, atI_nat (j := 1) rfl, (by show 3 ≤ sizeLine; decide), fun t ht => ?_⟩
        refine ⟨_, rfl, _, rfl, _, rfl, a1, _, 2, _, rfl, rfl, (Tu.new ht).seq hs1, atI_nat (j := 2) rfl, (by show 3 ≤ sizeLine; decide), fun u hu => ⟨(by show 3 ≤ sizeLine; decide), fun z hz => ?_⟩⟩
        have g1 : Gx P0 [] _ _ := Gx.new (o := .tup [.str k.name, v1, u1]) ht
        have g2 : Gx P0 [] _ _ := Gx.new (o := .tup [.str k.name, v1, u2]) hu
        have g3 : Gx P0 [] _ _ := Gx.new (o := .tup [.str ov, .ref t, .ref u]) hz
        have gg := (g1.trans g2).trans g3
        refine h _ _ (.nd o (.nd k wa b) (.nd k wa c)) gg (isW_mk_nd (v1 := .ref t) (v2 := .ref u) (SqT.of (by rw [← e]; exact upd_same)) (isW_mk_nd ((g2.trans g3).tu.seq (SqT.of upd_same)) ((i4.g.trans gg).tu.isW hw1) (gg.tu.isW x1)) (isW_mk_nd (g3.tu.seq (SqT.of upd_same)) ((i4.g.trans gg).tu.isW hw1) (gg.tu.isW x2))) (mv_over2 nm3 wa b c ho)
      · rw [e] at h
        exact absurd h head_e
    · rw [decide_eq_false h]
      exact hN _ (i4.mono (by decide))
  -- back
  refine fun p hp => ⟨upd_same, kvBack, rfl, by decide, ?_⟩
  rw [upd_upd]
  have g6 : Gx P0 [] H5 (upd H5 p (.dK (mergeK [] kvBack))) := Gx.new hp
  refine ⟨p, rfl, .inl ⟨_, .inl upd_same⟩, _, rfl, _, dget_s upd_same (kvBack_get k), ?_⟩
  obtain ⟨bk, hbk, hbk2⟩ : ∃ bk : Str, ((k.back.map fun o => V.str o.name).getD (.str "")) = .str bk ∧ ((∃ o, k.back = some o ∧ bk = o.name) ∨ bk = "") := by
    cases k.back with
    | none => exact ⟨_, rfl, .inr rfl⟩
    | some o => exact ⟨_, rfl, .inl ⟨o, rfl, rfl⟩⟩
  rw [hbk]
  have i6 := i5.go g6
  generalize upd H5 p (.dK (mergeK [] kvBack)) = H6 at i6
  dsimp only [gName]
  refine seq_if (MInv K P0 D d0 (.nd k wa wb) H0 6) (fun N hN => ?_) (fun H7 i7 => ?_)
  · dsimp only [tIfS, tAnd]
    have no : ∀ H', MInv K P0 D d0 (.nd k wa wb) H0 5 H' → MInv K P0 D d0 (.nd k wa wb) H0 6 H' := fun H' i => i.mono (by decide)
    refine rd_head (K := K) (i := 3) (j := 7) (wd := wa) (x := bk) (by rfl) (i6.g.tu.isW hw1) (by rfl) ?_
    by_cases h : wa.head = bk
    · rw [decide_eq_true h, if_pos rfl]
      refine rd_head (K := K) (i := 4) (j := 7) (wd := wb) (x := bk) (by rfl) (i6.g.tu.isW hw2) (by rfl) ?_
      by_cases h' : wb.head = bk
      · rw [decide_eq_true h']
        rcases hbk2 with ⟨o, ho, e⟩ | e
        · rw [e] at h h'
          obtain ⟨b, c, rfl⟩ := head_k h
          obtain ⟨b', c', rfl⟩ := head_k h'
          obtain ⟨a1, u1, u2, rfl, hs1, x1, x2⟩ := isW_nd (i6.g.tu.isW hw1)
          obtain ⟨a2, y1, y2, rfl, hs2, z1, z2⟩ := isW_nd (i6.g.tu.isW hw2)
          have dd1 : 1 + max b.depth c.depth ≤ 50 := da
          have dd2 : 1 + max b'.depth c'.depth ≤ 50 := db
          refine ⟨_, rfl, a1, _, 1, _, rfl, rfl, hs1, atI_nat (j := 1) rfl, _, rfl, a2, _, 1, _, rfl, rfl, hs2, atI_nat (j := 1) rfl, W.data b, W.data b', x1, z1, shapedW oa.1 (by omega), shapedW ob.1 (by omega), _, rfl, ?_⟩
          rw [W.data_eqv]
          by_cases hb : b = b'
          · rw [decide_eq_true hb]
            subst hb
            refine rd_app (by decide) i6 hDH hDd (by rfl) (fun Q' h => ?_) fun H' i' => hN _ i'
            refine ⟨_, rfl, _, rfl, a1, _, 1, _, rfl, rfl, hs1, atI_nat (j := 1) rfl, _, rfl, _, rfl, a1, _, 2, _, rfl, rfl, hs1, atI_nat (j := 2) rfl, _, rfl, a2, _, 2, _, rfl, rfl, hs2, atI_nat (j := 2) rfl, (by show 3 ≤ sizeLine; decide), fun t ht => ⟨(by show 3 ≤ sizeLine; decide), fun u hu => ?_⟩⟩
            have g1 : Gx P0 [] _ _ := Gx.new (o := .tup [.str k.name, u2, y2]) ht
            have g2 : Gx P0 [] _ _ := Gx.new (o := .tup [.str bk, u1, .ref t]) hu
            have gg := g1.trans g2
            exact h _ _ (.nd o b (.nd k c c')) gg (isW_mk_nd (SqT.of (by rw [← e]; exact upd_same)) (gg.tu.isW x1) (isW_mk_nd (g2.tu.seq (SqT.of upd_same)) (gg.tu.isW x2) (gg.tu.isW z2))) (mv_back nm3 b c c' (Kd.back_over.mp ho))
          · rw [decide_eq_false hb]
            exact hN _ (no _ i6)
        · rw [e] at h
          exact absurd h head_e
      · rw [decide_eq_false h']
        exact hN _ (no _ i6)
    · rw [decide_eq_false h]
      exact hN _ (no _ i6)
  -- one of them
  obtain ⟨g7, di7, acc, hacc, l0, l6, good⟩ := i7
  have l1 := cutV_length acc (some 1) none
  refine ⟨_, rfl, _, rfl, _, rfl, 1, rfl, D, acc, rfl, SqL.of hacc, fun t ht => ?_⟩
  have g8 : Gx P0 [] H7 (upd H7 t (.lst (cutV acc (some 1) none))) := Gx.new ht
  have hrl : (List.replicate (2 : Int).toNat (cutV acc (some 1) none)).flatten.length ≤ 12 := by
    show (List.replicate 2 (cutV acc (some 1) none)).flatten.length ≤ 12
    simp only [List.replicate, List.flatten_cons, List.flatten_nil, List.append_nil, List.length_append]
    omega
  refine ⟨t, 2, _, rfl, rfl, upd_same, by decide, by decide, ?_, fun u hu => ?_⟩
  · show (cutV acc (some 1) none).length * 2 ≤ sizeLine
    exact Nat.le_of_lt (big_of (by omega))
  have g9 := g8.trans (Gx.new (o := .lst (List.replicate (2 : Int).toNat (cutV acc (some 1) none)).flatten) hu)
  refine ⟨D, u, _, _, rfl, rfl, g9.lstA (by simp) hacc, upd_same, ?_, fun z hz => ?_⟩
  · exact Nat.le_of_lt (big_of (by omega))
  have g10 := g9.trans (Gx.new (o := .lst (acc ++ (List.replicate (2 : Int).toNat (cutV acc (some 1) none)).flatten)) hz)
  refine ⟨d0, z, _, rfl, g10.dice di7, SqL.of upd_same, (Dice.ne (g9.dice di7) hz).symm, ?_, ?_, fun H8 v g11 hd8 hv => ?_⟩
  · rw [List.length_append]
    omega
  · rw [List.length_append]
    omega
  obtain ⟨w', e1, e2⟩ := good v (mem_rep hv)
  exact q H8 v w' (((g0.more (ex := [d0])).trans (g7.more (ex := [d0]))).trans ((g10.more (ex := [d0])).trans g11)) hd8 ((g10.tu.trans g11.tu).isW e1) e2
end
end K78
set_option Elab.async false
set_option linter.all false
set_option maxRecDepth 100000
/-! K78, part 23: near words, bent words. -/
namespace K78
open PySem PySem.Spec PyProof.Rows L2 LamX
section
variable {pg : Program} {w : World} {K : PySem.W.Frag} {mg : Str → Option Value} {base : Heap} {P0 : Addr}
abbrev sNear : Stmt := topS 49
abbrev nNear : List Str := ["_law_dice_here", "_law_word", "_law_way"]
theorem scNear : FnScope nNear ["_law_dice_here", "_law_word"] (defScope sNear) := ⟨rfl, rfl, rfl, by decide +kernel, rfl, by decide +kernel, by decide +kernel⟩
def spNear (K : PySem.W.Frag) (P0 : Addr) (n : Nat) : Sp := fun vs H Q _ => ∃ (d : Addr) (v : V) (wd : W), vs = [.ref d, v] ∧ Dice H d ∧ IsW K H v wd ∧ wd.ok nm ∧ wd.depth ≤ n ∧ wd.depth ≤ 40 ∧
  ∀ H' r wd', Gx P0 [d] H H' → Dice H' d → IsW K H' r wd' → Alk nm3 wd wd' → Q r H'
theorem near_step (d : Def K mg "_law_al_near" sNear ["_law_dice_here", "_law_word"]) (dr : Def K mg "_law_roll" sRoll ["_law_dice_here", "_law_most"]) (dm : Def K mg "_law_al_moved" sMov ["_law_dice_here", "_law_word"])
    (Gr : FnOk pg w K mg base CX0 1 dr.f dr.fd ["_law_dice_here", "_law_most"] (spRoll P0)) (Gm : FnOk pg w K mg base CX0 3 dm.f dm.fd ["_law_dice_here", "_law_word"] (spMov K P0))
    (n : Nat) (G : FnOk pg w K mg base CX0 (3 + n) d.f d.fd ["_law_dice_here", "_law_word"] (spNear K P0 n)) : FnOk pg w K mg base CX0 (3 + n + 1) d.f d.fd ["_law_dice_here", "_law_word"] (spNear K P0 (n + 1)) := by
  refine d.fn.ok scNear (fun vs H Q E h => ?_) (fun cdv A outer s H vs Q E hr h => ?_)
  · obtain ⟨d, v, wd, rfl, _⟩ := h
    rfl
  have h1 : Room 1 (A.deeper (envOfC "_law_al_near" (defScope sNear) s.heap.objs.size d.f cdv)) := hr.mono (by omega)
  have h3 : Room 3 (A.deeper (envOfC "_law_al_near" (defScope sNear) s.heap.objs.size d.f cdv)) := hr.mono (by omega)
  obtain ⟨d0, v, wd, rfl, hd, hw, ho, hdp, h40, q⟩ := h
  refine ⟨_, pss_cons (ps_if (pt_cmpR op_eq (pe_ix ix_tup (pv 1) pe_int (fun _ _ => rfl)) pe_str (nomark _)) (pss_one (ps_ret (pv 1))) pss_nil)
    (pss_cons (ps_set (i := 2) scNear.nd rfl (Or.inl rfl) (pe_def dr Gr h1 (pa_cons (pv 0) (pa_cons pe_int pa_nil))))
    (pss_cons (ps_if (pt_cmpR op_eq (pv 2) pe_int (nomark _)) (pss_one (ps_ret (pe_tup (pa_cons (pe_ix ix_tup (pv 1) pe_int (fun _ _ => rfl)) (pa_cons (pe_def d G hr (pa_cons (pv 0) (pa_cons (pe_ix ix_tup (pv 1) pe_int (fun _ _ => rfl)) pa_nil))) (pa_cons (pe_ix ix_tup (pv 1) pe_int (fun _ _ => rfl)) pa_nil)))))) pss_nil)
    (pss_cons (ps_if (pt_cmpR op_eq (pv 2) pe_int (nomark _)) (pss_one (ps_ret (pe_tup (pa_cons (pe_ix ix_tup (pv 1) pe_int (fun _ _ => rfl)) (pa_cons (pe_ix ix_tup (pv 1) pe_int (fun _ _ => rfl)) (pa_cons (pe_def d G hr (pa_cons (pv 0) (pa_cons (pe_ix ix_tup (pv 1) pe_int (fun _ _ => rfl)) pa_nil))) pa_nil)))))) pss_nil)
    (pss_one (ps_ret (pe_def dm Gm h3 (pa_cons (pv 0) (pa_cons (pv 1) pa_nil)))))))), ?_⟩
  cases wd with
  | lt nme i =>
    obtain ⟨a, rfl, hs⟩ := isW_lt hw
    refine ⟨_, rfl, a, _, 0, _, rfl, rfl, hs, atI_nat (j := 0) rfl, rfl, true, rfl, ?_⟩
    exact ⟨_, rfl, q H _ _ (Gx.refl _ _ _) hd hw (Alk.refl _ _)⟩
  | nd k b c =>
    obtain ⟨a, v1, v2, rfl, hs, w1, w2⟩ := isW_nd hw
    have hd' : 1 + max b.depth c.depth ≤ n + 1 := hdp
    have hd40 : 1 + max b.depth c.depth ≤ 40 := h40
    refine ⟨_, rfl, a, _, 0, _, rfl, rfl, hs, atI_nat (j := 0) rfl, rfl, false, by rw [dec_kd], ?_⟩
    refine ⟨_, rfl, d0, 3, rfl, hd, by decide, by decide, fun H1 r g1 hd1 r0 r1 => ?_⟩
    have hs1 := g1.tu.seq hs
    refine ⟨_, rfl, rfl, decide (V.int r = V.int 0), rfl, ?_⟩
    by_cases e0 : V.int r = V.int 0
    · rw [decide_eq_true e0]
      refine ⟨_, rfl, a, _, 0, _, rfl, rfl, hs1, atI_nat (j := 0) rfl, _, rfl, _, rfl, a, _, 1, _, rfl, rfl, hs1, atI_nat (j := 1) rfl, d0, v1, b, rfl, hd1, g1.tu.isW w1, ho.1, by omega, by omega, fun H2 r2 b' g2 hd2 hr2 al => ?_⟩
      have g2 := g1.trans g2
      refine ⟨_, rfl, a, _, 2, _, rfl, rfl, g2.tu.seq hs, atI_nat (j := 2) rfl, (by show 3 ≤ sizeLine; decide), fun t ht => ?_⟩
      have gt : Gx P0 [] _ _ := Gx.new (o := .tup [.str k.name, r2, v2]) ht
      exact q _ _ (.nd k b' c) (g2.trans gt.more) (gt.dice hd2) (isW_mk_nd (SqT.of upd_same) (gt.tu.isW hr2) ((g2.tu.trans gt.tu).isW w2)) al.left
    rw [decide_eq_false e0]
    refine ⟨_, rfl, rfl, decide (V.int r = V.int 1), rfl, ?_⟩
    by_cases e1 : V.int r = V.int 1
    · rw [decide_eq_true e1]
      refine ⟨_, rfl, a, _, 0, _, rfl, rfl, hs1, atI_nat (j := 0) rfl, _, rfl, a, _, 1, _, rfl, rfl, hs1, atI_nat (j := 1) rfl, _, rfl, _, rfl, a, _, 2, _, rfl, rfl, hs1, atI_nat (j := 2) rfl, d0, v2, c, rfl, hd1, g1.tu.isW w2, ho.2, by omega, by omega, fun H2 r2 c' g2 hd2 hr2 al => ?_⟩
      have g2 := g1.trans g2
      refine ⟨(by show 3 ≤ sizeLine; decide), fun t ht => ?_⟩
      have gt : Gx P0 [] _ _ := Gx.new (o := .tup [.str k.name, v1, r2]) ht
      exact q _ _ (.nd k b c') (g2.trans gt.more) (gt.dice hd2) (isW_mk_nd (SqT.of upd_same) ((g2.tu.trans gt.tu).isW w1) (gt.tu.isW hr2)) al.right
    rw [decide_eq_false e1]
    exact ⟨_, rfl, _, rfl, d0, _, k, b, c, rfl, hd1, g1.tu.isW hw, ho.1, ho.2, by omega, by omega, fun H2 r2 w2 g2 hd2 hr2 al => q H2 r2 w2 (g1.trans g2) hd2 hr2 al⟩
theorem ok_near (d : Def K mg "_law_al_near" sNear ["_law_dice_here", "_law_word"]) (dr : Def K mg "_law_roll" sRoll ["_law_dice_here", "_law_most"]) (dm : Def K mg "_law_al_moved" sMov ["_law_dice_here", "_law_word"])
    (Gr : FnOk pg w K mg base CX0 1 dr.f dr.fd ["_law_dice_here", "_law_most"] (spRoll P0)) (Gm : FnOk pg w K mg base CX0 3 dm.f dm.fd ["_law_dice_here", "_law_word"] (spMov K P0)) :
    ∀ n : Nat, FnOk pg w K mg base CX0 (3 + n) d.f d.fd ["_law_dice_here", "_law_word"] (spNear K P0 n)
  | 0 => fn_none fun vs H Q E h => by
    obtain ⟨d, v, wd, _, _, _, _, h2, _⟩ := h
    have := wd.depth_pos
    omega
  | n + 1 => near_step d dr dm Gr Gm n (ok_near d dr dm Gr Gm n)

/-! ### bent words -/
abbrev sBent : Stmt := topS 52
abbrev nBent : List Str := ["_law_dice_here", "_law_word", "_law_way", "_law_kind"]
theorem scBent : FnScope nBent ["_law_dice_here", "_law_word"] (defScope sBent) := ⟨rfl, rfl, rfl, by decide +kernel, rfl, by decide +kernel, by decide +kernel⟩
def spBent (K : PySem.W.Frag) (P0 : Addr) (n : Nat) : Sp := fun vs H Q _ => ∃ (d : Addr) (v : V) (wd : W), vs = [.ref d, v] ∧ Dice H d ∧ IsW K H v wd ∧ wd.ok nm3 ∧ wd.depth ≤ n ∧
  ∀ H' r wd', Gx P0 [d] H H' → Dice H' d → IsW K H' r wd' → wd'.ok nm → wd'.depth ≤ wd.depth → Q r H'
def kds : List Kd := [.bo, .ei, .mi, .th]
def kdsV : List V := [.str "both", .str "either", .str "mine", .str "theirs"]
theorem kdsV_eq : kdsV = kds.map fun l => .str l.name := rfl
theorem bent_x {n : Str} (h : n ∈ nm3) : n ++ ("x" : Str) ∈ nm ∧ n.length ≤ 3 := by
  have z : ∀ n ∈ nm3, n ++ ("x" : Str) ∈ nm ∧ n.length ≤ 3 := by decide +kernel
  exact z n h
theorem nm3_in {n : Str} (h : n ∈ nm3) : n ∈ nm := by
  have z : ∀ n ∈ nm3, n ∈ nm := by decide +kernel
  exact z n h
theorem kds_ne (k : Kd) : 0 < (kds.filter fun l => !decide (l = k)).length := by cases k <;> decide
theorem bent_step (d : Def K mg "_law_fm_bent" sBent ["_law_dice_here", "_law_word"]) (dr : Def K mg "_law_roll" sRoll ["_law_dice_here", "_law_most"]) (dp : Def K mg "_law_pick" sPick nPick)
    (Gr : FnOk pg w K mg base CX0 1 dr.f dr.fd ["_law_dice_here", "_law_most"] (spRoll P0)) (Gp : FnOk pg w K mg base CX0 2 dp.f dp.fd nPick (spPick K P0))
    (n : Nat) (G : FnOk pg w K mg base CX0 (3 + n) d.f d.fd ["_law_dice_here", "_law_word"] (spBent K P0 n)) : FnOk pg w K mg base CX0 (3 + n + 1) d.f d.fd ["_law_dice_here", "_law_word"] (spBent K P0 (n + 1)) := by
  refine d.fn.ok scBent (fun vs H Q E h => ?_) (fun cdv A outer s H vs Q E hr h => ?_)
  · obtain ⟨d, v, wd, rfl, _⟩ := h
    rfl
  have h1 : Room 1 (A.deeper (envOfC "_law_fm_bent" (defScope sBent) s.heap.objs.size d.f cdv)) := hr.mono (by omega)
  have h2 : Room 2 (A.deeper (envOfC "_law_fm_bent" (defScope sBent) s.heap.objs.size d.f cdv)) := hr.mono (by omega)
  obtain ⟨d0, v, wd, rfl, hd, hw, ho, hdp, q⟩ := h
  refine ⟨_, pss_cons (ps_if (pt_cmpR op_eq (pe_ix ix_tup (pv 1) pe_int (fun _ _ => rfl)) pe_str (nomark _)) (pss_one (ps_ret (pe_def dp Gp h2 (pa_cons (pv 0) (pa_cons (pe_lst (pa_cons
        (pe_tup (pa_cons pe_str (pa_cons (pe_ix ix_tup (pv 1) pe_int (fun _ _ => rfl)) (pa_cons (pe_op op_sub pe_int (pe_ix ix_tup (pv 1) pe_int (fun _ _ => rfl))) pa_nil))))
        (pa_cons (pe_tup (pa_cons pe_str (pa_cons (pe_op op_add_str (pe_ix ix_tup (pv 1) pe_int (fun _ _ => rfl)) pe_str) (pa_cons (pe_ix ix_tup (pv 1) pe_int (fun _ _ => rfl)) pa_nil)))) pa_nil))) pa_nil))))) pss_nil)
    (pss_cons (ps_set (i := 2) scBent.nd rfl (Or.inl rfl) (pe_def dr Gr h1 (pa_cons (pv 0) (pa_cons pe_int pa_nil))))
    (pss_cons (ps_if (pt_cmpR op_eq (pv 2) pe_int (nomark _)) (pss_one (ps_ret (pe_tup (pa_cons (pe_def dp Gp h2 (pa_cons (pv 0) (pa_cons
        (pe_lc (own := [("_law_kind", 3)]) (g := gName 3) (tt := tTest (tOp rNe (tVar 3) (tOp (rIxT K) (tVar 1) (tC (.int 0))))) rfl scBent.nd (pi_tup (pe_tup (pa_cons pe_str (pa_cons pe_str (pa_cons pe_str (pa_cons pe_str pa_nil)))))) (blkOk_by (N := nBent) (sc := defScope sBent) (by decide +kernel))
          (fun _ _ _ _ _ => pg_name (i := 3) scBent.nd rfl (Or.inl rfl)) (fun _ _ _ _ _ => pts_one (pt_cmpR op_ne (pv 3) (pe_ix ix_tup (pv 1) pe_int (fun _ _ => rfl)) (nomark _))) (fun _ _ _ _ _ => pv 3)) pa_nil)))
        (pa_cons (pe_ix ix_tup (pv 1) pe_int (fun _ _ => rfl)) (pa_cons (pe_ix ix_tup (pv 1) pe_int (fun _ _ => rfl)) pa_nil)))))) pss_nil)
    (pss_one (ps_ret (pe_ifExp (pt_cmpR op_lt (pv 2) pe_int (nomark _))
      (pe_tup (pa_cons (pe_ix ix_tup (pv 1) pe_int (fun _ _ => rfl)) (pa_cons (pe_def d G hr (pa_cons (pv 0) (pa_cons (pe_ix ix_tup (pv 1) pe_int (fun _ _ => rfl)) pa_nil))) (pa_cons (pe_ix ix_tup (pv 1) pe_int (fun _ _ => rfl)) pa_nil))))
      (pe_tup (pa_cons (pe_ix ix_tup (pv 1) pe_int (fun _ _ => rfl)) (pa_cons (pe_ix ix_tup (pv 1) pe_int (fun _ _ => rfl)) (pa_cons (pe_def d G hr (pa_cons (pv 0) (pa_cons (pe_ix ix_tup (pv 1) pe_int (fun _ _ => rfl)) pa_nil))) pa_nil))))))))), ?_⟩
  cases wd with
  | lt nme i =>
    obtain ⟨a, rfl, hs⟩ := isW_lt hw
    obtain ⟨hx, hl⟩ := bent_x ho.1
    have hon : nme ∈ nm := nm3_in ho.1
    refine ⟨_, rfl, a, _, 0, _, rfl, rfl, hs, atI_nat (j := 0) rfl, rfl, true, rfl, ?_⟩
    refine ⟨_, rfl, _, rfl, a, _, 1, _, rfl, rfl, hs, atI_nat (j := 1) rfl, _, rfl, a, _, 2, _, rfl, rfl, hs, atI_nat (j := 2) rfl, _, _, rfl, rfl, (by show 3 ≤ sizeLine; decide), fun t ht => ?_⟩
    have g1 : Gx P0 [] _ _ := Gx.new (o := .tup [.str "letter", .str nme, .int (0 - i)]) ht
    refine ⟨_, rfl, a, _, 1, _, rfl, rfl, g1.tu.seq hs, atI_nat (j := 1) rfl, _, _, rfl, rfl, Nat.le_of_lt (big_of (by show nme.length + 1 ≤ _; omega)), _, rfl, a, _, 2, _, rfl, rfl, g1.tu.seq hs, atI_nat (j := 2) rfl, (by show 3 ≤ sizeLine; decide), fun u hu => ?_⟩
    have g2 : Gx P0 [] _ _ := Gx.new (o := .tup [.str "letter", .str (nme ++ "x"), .int i]) hu
    refine ⟨(by show 2 ≤ sizeLine; decide), fun z hz => ?_⟩
    have g3 : Gx P0 [] _ _ := Gx.new (o := .lst [.ref t, .ref u]) hz
    have gg := (g1.trans g2).trans g3
    refine ⟨d0, z, _, rfl, gg.dice hd, SqL.of upd_same, (Dice.ne ((g1.trans g2).dice hd) hz).symm, (by show 0 < 2; decide), (by show 2 < 1000; decide), fun H4 v g4 hd4 hv => ?_⟩
    have sg : ∀ i : Int, (i = 1 ∨ i = -1) → (0 - i = 1 ∨ 0 - i = -1) := fun i h => by omega
    rcases List.mem_cons.mp hv with rfl | hv
    · refine q H4 _ (.lt nme (0 - i)) (gg.more.trans g4) hd4 (isW_mk_lt (((g2.trans g3).tu.trans g4.tu).seq (SqT.of upd_same))) ⟨hon, sg i ho.2⟩ (Nat.le_refl _)
    · rw [List.mem_singleton.mp hv]
      refine q H4 _ (.lt (nme ++ "x") i) (gg.more.trans g4) hd4 (isW_mk_lt ((g3.tu.trans g4.tu).seq (SqT.of upd_same))) ⟨hx, ho.2⟩ (Nat.le_refl _)
  | nd k b c =>
    obtain ⟨a, v1, v2, rfl, hs, w1, w2⟩ := isW_nd hw
    have hd' : 1 + max b.depth c.depth ≤ n + 1 := hdp
    have ob := nm3_nm ho.1
    have oc := nm3_nm ho.2
    refine ⟨_, rfl, a, _, 0, _, rfl, rfl, hs, atI_nat (j := 0) rfl, rfl, false, by rw [dec_kd], ?_⟩
    refine ⟨_, rfl, d0, 5, rfl, hd, by decide, by decide, fun H1 r g1 hd1 r0 r1 => ?_⟩
    have hs1 := g1.tu.seq hs
    refine ⟨_, rfl, rfl, decide (V.int r = V.int 0), rfl, ?_⟩
    by_cases e0 : V.int r = V.int 0
    · rw [decide_eq_true e0]
      refine ⟨_, rfl, (by show 4 ≤ sizeLine; decide), fun t ht => ⟨t, rfl, ⟨_, SqT.of upd_same⟩, fun D hD => ?_⟩⟩
      have g2 : Gx P0 [] _ _ := Gx.new (o := .tup kdsV) ht
      have hT : upd H1 t (.tup kdsV) t = some (.tup kdsV) := upd_same
      have hD : upd H1 t (.tup kdsV) D = none := hD
      show ∃ W : Nat → Nat → Hp → Prop, (∃ m, W 0 m (upd (upd H1 t (.tup kdsV)) D (.lst []))) ∧ _
      generalize upd H1 t (.tup kdsV) = H2 at g2 hT hD
      refine it_tup (K := K) (xs := kdsV) (fun i H7 => Gx P0 [] H2 H7 ∧ H7 D = some (.lst (((kds.take i).filter fun l => !decide (l = k)).map fun l => .str l.name)))
        ⟨Gx.new hD, upd_same⟩ (fun i H7 _ h7 => SqT.of (h7.1.tupA hT)) (fun i x H7 hi h7 => ?_) (fun H7 h7 => ?_)
      · obtain ⟨g7, hD7⟩ := h7
        rw [kdsV_eq, List.getElem?_map] at hi
        obtain ⟨l, el, ex⟩ := Option.map_eq_some_iff.mp hi
        subst ex
        refine ⟨rfl, _, rfl, _, rfl, a, _, 0, _, rfl, rfl, (g2.trans g7).tu.seq hs1, atI_nat (j := 0) rfl, rfl, !decide (l = k), congrArg V.bl (congrArg Bool.not (dec_kk k l)), ?_⟩
        rw [take_snoc el, List.filter_append, List.map_append]
        by_cases e : l = k
        · rw [decide_eq_true e]
          refine ⟨g7, ?_⟩
          rw [hD7]
          have z : ([l].filter fun l => !decide (l = k)) = [] := by simp [e]
          rw [z, List.map_nil, List.append_nil]
        · rw [decide_eq_false e]
          refine ⟨_, rfl, _, hD7, big_of ?_, g7.own hD hD7, ?_⟩
          · rw [List.length_map]
            have z1 := List.length_filter_le (fun l => !decide (l = k)) (kds.take i)
            have z2 : (kds.take i).length ≤ 4 := by rw [List.length_take]; exact Nat.min_le_right _ _
            omega
          · have z : ([l].filter fun l => !decide (l = k)) = [l] := by simp [e]
            rw [upd_same, z]
            rfl
      · obtain ⟨g7, hD7⟩ := h7
        have e4 : kds.take kdsV.length = kds := rfl
        rw [e4] at hD7
        have z1 := List.length_filter_le (fun l => !decide (l = k)) kds
        have z2 : kds.length = 4 := rfl
        have z3 := kds_ne k
        have gg := g2.trans g7
        refine ⟨d0, D, _, rfl, gg.dice hd1, SqL.of hD7, fun z => ?_, by rw [List.length_map]; exact z3, by rw [List.length_map]; omega, fun H8 v g8 hd8 hv => ?_⟩
        · obtain ⟨x, y, u, hx⟩ := g2.dice hd1
          rw [← z, hD] at hx
          cases hx
        · obtain ⟨l, hl, rfl⟩ := List.mem_map.mp hv
          have g9 := g1.trans (gg.more.trans g8)
          refine ⟨_, rfl, a, _, 1, _, rfl, rfl, g9.tu.seq hs, atI_nat (j := 1) rfl, _, rfl, a, _, 2, _, rfl, rfl, g9.tu.seq hs, atI_nat (j := 2) rfl, (by show 3 ≤ sizeLine; decide), fun y hy => ?_⟩
          have g10 : Gx P0 [] _ _ := Gx.new (o := .tup [.str l.name, v1, v2]) hy
          exact q _ _ (.nd l b c) (g9.trans g10.more) (g10.dice hd8) (isW_mk_nd (SqT.of upd_same) ((g9.tu.trans g10.tu).isW w1) ((g9.tu.trans g10.tu).isW w2)) ⟨ob, oc⟩ (Nat.le_refl _)
    rw [decide_eq_false e0]
    refine ⟨_, rfl, _, _, rfl, rfl, decide (r < 3), rfl, ?_⟩
    by_cases e1 : r < 3
    · rw [decide_eq_true e1]
      refine ⟨_, rfl, a, _, 0, _, rfl, rfl, hs1, atI_nat (j := 0) rfl, _, rfl, _, rfl, a, _, 1, _, rfl, rfl, hs1, atI_nat (j := 1) rfl, d0, v1, b, rfl, hd1, g1.tu.isW w1, ho.1, by omega, fun H2 r2 b' g2 hd2 hr2 o2 p2 => ?_⟩
      have g2 := g1.trans g2
      refine ⟨_, rfl, a, _, 2, _, rfl, rfl, g2.tu.seq hs, atI_nat (j := 2) rfl, (by show 3 ≤ sizeLine; decide), fun t ht => ?_⟩
      have gt : Gx P0 [] _ _ := Gx.new (o := .tup [.str k.name, r2, v2]) ht
      exact q _ _ (.nd k b' c) (g2.trans gt.more) (gt.dice hd2) (isW_mk_nd (SqT.of upd_same) (gt.tu.isW hr2) ((g2.tu.trans gt.tu).isW w2)) ⟨o2, oc⟩ (by show 1 + max b'.depth c.depth ≤ 1 + max b.depth c.depth; omega)
    · rw [decide_eq_false e1]
      refine ⟨_, rfl, a, _, 0, _, rfl, rfl, hs1, atI_nat (j := 0) rfl, _, rfl, a, _, 1, _, rfl, rfl, hs1, atI_nat (j := 1) rfl, _, rfl, _, rfl, a, _, 2, _, rfl, rfl, hs1, atI_nat (j := 2) rfl, d0, v2, c, rfl, hd1, g1.tu.isW w2, ho.2, by omega, fun H2 r2 c' g2 hd2 hr2 o2 p2 => ?_⟩
      have g2 := g1.trans g2
      refine ⟨(by show 3 ≤ sizeLine; decide), fun t ht => ?_⟩
      have gt : Gx P0 [] _ _ := Gx.new (o := .tup [.str k.name, v1, r2]) ht
      exact q _ _ (.nd k b c') (g2.trans gt.more) (gt.dice hd2) (isW_mk_nd (SqT.of upd_same) ((g2.tu.trans gt.tu).isW w1) (gt.tu.isW hr2)) ⟨ob, o2⟩ (by show 1 + max b.depth c'.depth ≤ 1 + max b.depth c.depth; omega)
theorem ok_bent (d : Def K mg "_law_fm_bent" sBent ["_law_dice_here", "_law_word"]) (dr : Def K mg "_law_roll" sRoll ["_law_dice_here", "_law_most"]) (dp : Def K mg "_law_pick" sPick nPick)
    (Gr : FnOk pg w K mg base CX0 1 dr.f dr.fd ["_law_dice_here", "_law_most"] (spRoll P0)) (Gp : FnOk pg w K mg base CX0 2 dp.f dp.fd nPick (spPick K P0)) :
    ∀ n : Nat, FnOk pg w K mg base CX0 (3 + n) d.f d.fd ["_law_dice_here", "_law_word"] (spBent K P0 n)
  | 0 => fn_none fun vs H Q E h => by
    obtain ⟨d, v, wd, _, _, _, _, h2, _⟩ := h
    have := wd.depth_pos
    omega
  | n + 1 => bent_step d dr dp Gr Gp n (ok_bent d dr dp Gr Gp n)
end
end K78
set_option Elab.async false
set_option linter.all false
set_option maxRecDepth 100000
/-! K78, part 24: one turn of the law. -/
namespace K78
open PySem PySem.Spec PyProof.Rows L2 LamX
/-- the functions that the law calls -/
structure Lib (pg : Program) (w : World) (K : PySem.W.Frag) (mg : Str → Option Value) (base : Heap) (P0 : Addr) where
  dWord : Def K mg "_law_dr_word" sWord ["_law_dice_here", "_law_deep"]
  gWord : FnOk pg w K mg base CX0 32 dWord.f dWord.fd ["_law_dice_here", "_law_deep"] (spWord K P0 4)
  dLet : Def K mg "_law_fm_is_let" sLet ["_law_word"]
  gLet : FnOk pg w K mg base CX0 32 dLet.f dLet.fd ["_law_word"] (spLet K P0)
  dAl : Def K mg "_law_al_form" sAl ["_law_word"]
  gAl : FnOk pg w K mg base CX0 32 dAl.f dAl.fd ["_law_word"] (spAl K P0 8)
  dNormal : Def K mg "normal" sNormal ["word"]
  gNormal : FnOk pg w K mg base CX0 32 dNormal.f dNormal.fd ["word"] (spNormal K P0)
  dTurn : Def K mg "_law_dr_turned" sTurn ["_law_word"]
  gTurn : FnOk pg w K mg base CX0 32 dTurn.f dTurn.fd ["_law_word"] (spTurn K P0 8)
  dTF : Def K mg "_law_al_turned_form" sTF ["_law_form"]
  gTF : FnOk pg w K mg base CX0 32 dTF.f dTF.fd ["_law_form"] (spTF K P0 20)
  dRoll : Def K mg "_law_roll" sRoll ["_law_dice_here", "_law_most"]
  gRoll : FnOk pg w K mg base CX0 32 dRoll.f dRoll.fd ["_law_dice_here", "_law_most"] (spRoll P0)
  dNear : Def K mg "_law_al_near" sNear ["_law_dice_here", "_law_word"]
  gNear : FnOk pg w K mg base CX0 32 dNear.f dNear.fd ["_law_dice_here", "_law_word"] (spNear K P0 10)
  dAlike : Def K mg "are_alike" sAlike ["one", "other"]
  gAlike : FnOk pg w K mg base CX0 32 dAlike.f dAlike.fd ["one", "other"] (spAlike K P0)
  dCopy : Def K mg "copy_count" sCopy ["word"]
  gCopy : FnOk pg w K mg base CX0 32 dCopy.f dCopy.fd ["word"] (spCopy K P0)
  dBent : Def K mg "_law_fm_bent" sBent ["_law_dice_here", "_law_word"]
  gBent : FnOk pg w K mg base CX0 32 dBent.f dBent.fd ["_law_dice_here", "_law_word"] (spBent K P0 8)
  dPick : Def K mg "_law_pick" sPick nPick
  gPick : FnOk pg w K mg base CX0 32 dPick.f dPick.fd nPick (spPick K P0)
section
variable {pg : Program} {w : World} {K : PySem.W.Frag} {mg : Str → Option Value} {base : Heap} {P0 : Addr}
abbrev sRight : Stmt := topS 54
abbrev nRight : List Str := ["_law_dice_here", "_law_word", "_law_form", "_law_here", "_law_turn", "_law_other", "_law_far", "_law_more", "_law_kind", "_law_one", "_law_two"]
theorem scRight : FnScope nRight ["_law_dice_here"] (defScope sRight) := ⟨rfl, rfl, rfl, by decide +kernel, rfl, by decide +kernel, by decide +kernel⟩
def spRight (K : PySem.W.Frag) (P0 : Addr) : Sp := fun vs H Q _ => ∃ d : Addr, vs = [.ref d] ∧ Dice H d ∧ TabS H P0 lamQ ∧ ∀ H', Gx P0 [d] H H' → Dice H' d → Q (.bl true) H'
theorem LOk.aok {wd : W} (h : LOk wd) : AOk wd := ⟨h.wok.ok, h.wok.low, h.wok.few⟩
theorem LOk.turn {wd : W} (h : LOk wd) : LOk wd.turn := ⟨⟨W.turn_ok h.wok.ok, by rw [W.turn_letters]; exact h.wok.few, by rw [W.turn_depth]; exact h.wok.low⟩, by rw [norm_turn, F.turn_size]; exact h.few⟩
theorem LOk.shapedT {wd : W} (h : LOk wd) : SeqAt.shaped (F.data (F.turn (norm wd))) = true := by
  have h2 := h.turn.shaped
  rw [norm_turn] at h2
  exact h2
set_option maxHeartbeats 4000000 in
theorem ok_right (T : Txt K mg w) (L : Lib pg w K mg base P0) (d : Def K mg "_law_right" sRight ["_law_dice_here"]) : FnOk pg w K mg base CX0 33 d.f d.fd ["_law_dice_here"] (spRight K P0) := by
  refine d.fn.ok scRight (fun vs H Q E h => ?_) (fun cdv A outer s H vs Q E hr h => ?_)
  · obtain ⟨d, rfl, _⟩ := h
    rfl
  obtain ⟨d0, rfl, hd, hT, q⟩ := h
  refine ⟨_, pss_cons (ps_set (i := 1) scRight.nd rfl (Or.inl rfl) (pe_def L.dWord L.gWord hr (pa_cons (pv 0) (pa_cons pe_int pa_nil))))
    (pss_cons (ps_if (pt_not (pt_val (pe_def L.dLet L.gLet hr (pa_cons (pv 1) pa_nil)))) (pss_one (ps_ret pe_bl)) pss_nil)
    (pss_cons (ps_par (i := 2) (j := 3) rfl scRight.nd rfl rfl (by decide) rfl rfl (pa_cons (pe_def L.dAl L.gAl hr (pa_cons (pv 1) pa_nil)) (pa_cons (pv 1) pa_nil)) (by rfl))
    (pss_cons (ps_if (PW.pt (pw_or (pt_cmpR (op_neD hr.units) (pe_def L.dNormal L.gNormal hr (pa_cons (pv 1) pa_nil)) (pv 2) (nomark _)) (pw_or1 (pt_cmpR (op_neD hr.units) (pe_def L.dNormal L.gNormal hr (pa_cons (pe_def L.dTurn L.gTurn hr (pa_cons (pv 1) pa_nil)) pa_nil)) (pe_def L.dTF L.gTF hr (pa_cons (pv 2) pa_nil)) (nomark _))))) (pss_one (ps_ret pe_bl)) pss_nil)
    (pss_cons (ps_for PassesOwn.never rfl (pi_range1 rfl T.range (pa_cons (pe_def L.dRoll L.gRoll hr (pa_cons (pv 0) (pa_cons pe_int pa_nil))) pa_nil)) (pg_name (i := 4) scRight.nd rfl (Or.inl rfl))
      (pss_cons (ps_set (i := 5) scRight.nd rfl (Or.inl rfl) (pe_def L.dNear L.gNear hr (pa_cons (pv 0) (pa_cons (pv 3) pa_nil))))
      (pss_one (ps_set (i := 3) scRight.nd rfl (Or.inl rfl) (pe_ifExp (pt_val (pe_def L.dLet L.gLet hr (pa_cons (pv 5) pa_nil))) (pv 5) (pv 3))))))
    (pss_cons (ps_if (PW.pt (pw_or (pt_cmpR (op_neD hr.units) (pe_def L.dNormal L.gNormal hr (pa_cons (pv 3) pa_nil)) (pv 2) (nomark _)) (pw_or (pt_not (pt_val (pe_def L.dAlike L.gAlike hr (pa_cons (pv 1) (pa_cons (pv 3) pa_nil))))) (pw_or (pt_not (pt_val (pe_def L.dAlike L.gAlike hr (pa_cons (pv 3) (pa_cons (pv 1) pa_nil)))))
        (pw_or1 (pt_cmpR op_ne (pe_def L.dCopy L.gCopy hr (pa_cons (pv 3) pa_nil)) (pe_def L.dCopy L.gCopy hr (pa_cons (pv 1) pa_nil)) (nomark _))))))) (pss_one (ps_ret pe_bl)) pss_nil)
    (pss_cons (ps_set (i := 6) scRight.nd rfl (Or.inl rfl) (pe_def L.dBent L.gBent hr (pa_cons (pv 0) (pa_cons (pv 3) pa_nil))))
    (pss_cons (ps_if (pt_not (pt_val (pe_def L.dLet L.gLet hr (pa_cons (pv 6) pa_nil)))) (pss_one (ps_ret pe_bl)) pss_nil)
    (pss_cons (ps_if (PW.pt (pw_or (pt_cmpR (op_neD hr.units) (pe_def L.dNormal L.gNormal hr (pa_cons (pv 6) pa_nil)) (pe_def L.dAl L.gAl hr (pa_cons (pv 6) pa_nil)) (nomark _)) (pw_or1 (pt_cmpR op_ne (pe_def L.dAlike L.gAlike hr (pa_cons (pv 1) (pa_cons (pv 6) pa_nil)))
        (pe_cmpR (op_eqD hr.units) (pe_def L.dAl L.gAl hr (pa_cons (pv 6) pa_nil)) (pv 2) rfl) (nomark _))))) (pss_one (ps_ret pe_bl)) pss_nil)
    (pss_cons (ps_set (i := 7) scRight.nd rfl (Or.inl rfl) (pe_def L.dWord L.gWord hr (pa_cons (pv 0) (pa_cons pe_int pa_nil))))
    (pss_cons (ps_set (i := 8) scRight.nd rfl (Or.inl rfl) (pe_def L.dPick L.gPick hr (pa_cons (pv 0) (pa_cons (pe_lst (pa_cons pe_str (pa_cons pe_str (pa_cons pe_str (pa_cons pe_str pa_nil))))) pa_nil))))
    (pss_cons (ps_par (i := 9) (j := 10) rfl scRight.nd rfl rfl (by decide) rfl rfl (pa_cons (pe_tup (pa_cons (pv 8) (pa_cons (pv 1) (pa_cons (pv 7) pa_nil)))) (pa_cons (pe_tup (pa_cons (pv 8) (pa_cons (pv 7) (pa_cons (pv 3) pa_nil)))) pa_nil)) (by rfl))
    (pss_one (ps_ret (pe_or (pe_not (pe_def L.dLet L.gLet hr (pa_cons (pv 9) pa_nil))) (pe_or (pe_not (pe_def L.dLet L.gLet hr (pa_cons (pv 10) pa_nil)))
      (pe_one (pe_cmpR op_isBl (pe_def L.dAlike L.gAlike hr (pa_cons (pv 9) (pa_cons (pv 10) pa_nil))) pe_bl rfl))))))))))))))))), ?_⟩
  -- the word
  refine ⟨_, rfl, d0, 4, rfl, hd, by decide, by decide, fun H1 rw wd g1 hd1 hw1 hok hdp => ?_⟩
  have okn := nm3_nm hok
  refine ⟨_, rfl, wd, rw, rfl, hw1, okn, by omega, fun H2 g2 => ?_⟩
  have hd2 := g2.dice hd1
  have hw2 := g2.tu.isW hw1
  have g2 := g1.trans (g2.more (ex := [d0]))
  refine ⟨decide (Let wd), rfl, ?_⟩
  by_cases hl : Let wd
  case neg =>
    rw [decide_eq_false hl]
    exact q _ g2 hd2
  rw [decide_eq_true hl]
  have lo := lok_of okn hl
  refine ⟨_, rfl, wd, rw, rfl, hw2, lo.wok.low, lo.aok, fun H3 rf g3 hf3 => ⟨_, rfl, _, _, rfl, ?_⟩⟩
  have hd3 := g3.dice hd2
  have hw3 := g3.tu.isW hw2
  have g3 := g2.trans (g3.more (ex := [d0]))
  clear g2 hw2 hd2 g1 hd1 hw1
  -- its form and that of the turned one
  refine ⟨_, rfl, wd, rw, rfl, hw3, lo, g3.tab hT, fun H4 r4 g4 h4 => ?_⟩
  refine ⟨_, rfl, F.data (norm wd), F.data (norm wd), h4, g4.tu.isF hf3, lo.shaped, lo.shaped, _, rfl, ?_⟩
  rw [F.data_eqv, decide_eq_true rfl]
  refine ⟨_, rfl, wd, rw, rfl, g4.tu.isW hw3, lo.wok.low, fun H5 r5 g5 w5 => ?_⟩
  have g5 := g4.trans g5
  refine ⟨wd.turn, r5, rfl, w5, lo.turn, (g3.trans (g5.more (ex := [d0]))).tab hT, fun H6 r6 g6 h6 => ?_⟩
  have g6 := g5.trans g6
  refine ⟨_, rfl, norm wd, rf, rfl, g6.tu.isF hf3, lo.aok.bf, lo.aok.bf.low, fun H7 r7 g7 h7 => ?_⟩
  have sT := lo.shapedT
  have h6 := g7.tu.isF h6
  rw [norm_turn] at h6
  refine ⟨F.data (F.turn (norm wd)), F.data (F.turn (norm wd)), h6, h7, sT, sT, _, rfl, ?_⟩
  rw [F.data_eqv, decide_eq_true rfl]
  have g7 := g6.trans g7
  have hd7 := g7.dice hd3
  have hw7 := g7.tu.isW hw3
  have hf7 := g7.tu.isF hf3
  have g7 := g3.trans (g7.more (ex := [d0]))
  clear g3 g4 g5 g6 hd3 hw3 hf3 h6 h7 h4 w5
  -- changes
  refine ⟨_, rfl, d0, 13, rfl, hd7, by decide, by decide, fun H8 r8 g8 hd8 p0 p1 => ⟨r8, rfl, by omega, by omega, ?_⟩⟩
  have hw8 := g8.tu.isW hw7
  have hf8 := g8.tu.isF hf7
  have g8 := g7.trans g8
  refine for_range (lo := 0) (n := r8.toNat) (fun _ σ H9 => ∃ (x3 : V) (x4 x5 : Option V) (wh : W), σ = [some (.ref d0), some rw, some rf, some x3, x4, x5, none, none, none, none, none] ∧ Gx P0 [d0] H H9 ∧ Dice H9 d0 ∧ IsW K H9 rw wd ∧ IsF K H9 rf (norm wd) ∧
      IsW K H9 x3 wh ∧ norm wh = norm wd ∧ wh.cnt = wd.cnt ∧ wh.ok nm3 ∧ Let wh)
    ⟨rw, none, none, wd, rfl, g8, hd8, hw8, hf8, hw8, rfl, rfl, hok, hl⟩ (fun i σ H9 hi h9 => ?_) (fun σ H9 h9 => ?_)
  · obtain ⟨x3, x4, x5, wh, rfl, g9, hd9, hw9, hf9, hx9, e1, e2, e3, e4⟩ := h9
    have e5 : wh.depth < 9 := e4.2.1
    refine ⟨_, rfl, _, rfl, d0, x3, wh, rfl, hd9, hx9, nm3_nm e3, by omega, by omega, fun H10 r10 w10 g10 hd10 hr10 al => ?_⟩
    have e6 := al.dep
    have o10 := al.okk e3
    refine ⟨_, rfl, w10, r10, rfl, hr10, nm3_nm o10, by omega, fun H11 g11 => ⟨decide (Let w10), rfl, ?_⟩⟩
    have t11 := g10.tu.trans g11.tu
    have gg := (g9.trans g10).trans (g11.more (ex := [d0]))
    by_cases hl10 : Let w10
    · rw [decide_eq_true hl10]
      exact ⟨_, rfl, r10, _, _, w10, rfl, gg, g11.dice hd10, t11.isW hw9, t11.isF hf9, g11.tu.isW hr10, by rw [al.nrm, e1], by rw [al.cnt, e2], o10, hl10⟩
    · rw [decide_eq_false hl10]
      exact ⟨_, rfl, x3, _, _, wh, rfl, gg, g11.dice hd10, t11.isW hw9, t11.isF hf9, t11.isW hx9, e1, e2, e3, e4⟩
  obtain ⟨x3, x4, x5, wh, rfl, g9, hd9, hw9, hf9, hx9, e1, e2, e3, e4⟩ := h9
  clear g8 g7 hd8 hd7 hw7 hf7 hw8 hf8
  have lh := lok_of (nm3_nm e3) e4
  refine ⟨_, rfl, wh, x3, rfl, hx9, lh, g9.tab hT, fun H10 r10 g10 h10 => ?_⟩
  refine ⟨_, rfl, F.data (norm wh), F.data (norm wd), h10, g10.tu.isF hf9, lh.shaped, lo.shaped, _, rfl, ?_⟩
  rw [F.data_eqv, decide_eq_true e1]
  refine ⟨_, rfl, _, rfl, wd, wh, rw, x3, rfl, g10.tu.isW hw9, g10.tu.isW hx9, lo, lh, (g9.trans (g10.more (ex := [d0]))).tab hT, fun H11 g11 => ⟨decide (norm wd = norm wh), rfl, ?_⟩⟩
  rw [decide_eq_true e1.symm]
  have g11 := g10.trans g11
  refine ⟨_, rfl, _, rfl, wh, wd, x3, rw, rfl, g11.tu.isW hx9, g11.tu.isW hw9, lh, lo, (g9.trans (g11.more (ex := [d0]))).tab hT, fun H12 g12 => ⟨decide (norm wh = norm wd), rfl, ?_⟩⟩
  rw [decide_eq_true e1]
  have g12 := g11.trans g12
  refine ⟨_, rfl, wh, x3, rfl, g12.tu.isW hx9, lh.wok, fun H13 g13 => ?_⟩
  have g13 := g12.trans g13
  refine ⟨_, rfl, wd, rw, rfl, g13.tu.isW hw9, lo.wok, fun H14 g14 => ⟨rfl, _, rfl, ?_⟩⟩
  rw [e2, decide_eq_true rfl]
  have g14 := g13.trans g14
  have hd14 := g14.dice hd9
  have hw14 := g14.tu.isW hw9
  have hf14 := g14.tu.isF hf9
  have hx14 := g14.tu.isW hx9
  have g14 := g9.trans (g14.more (ex := [d0]))
  clear g13 g12 g11 g10 g9 hd9 hw9 hf9 hx9 h10
  -- a bent one
  refine ⟨_, rfl, _, rfl, d0, x3, wh, rfl, hd14, hx14, e3, lh.wok.low, fun H15 rb wb g15 hd15 hb15 okb dpb => ?_⟩
  have lhd := lh.wok.low
  refine ⟨_, rfl, wb, rb, rfl, hb15, okb, by omega, fun H16 g16 => ⟨decide (Let wb), rfl, ?_⟩⟩
  have hd16 := g16.dice hd15
  have hb16 := g16.tu.isW hb15
  have t16 := g15.tu.trans g16.tu
  have hw16 := t16.isW hw14
  have hf16 := t16.isF hf14
  have hx16 := t16.isW hx14
  have g16 := (g14.trans g15).trans (g16.more (ex := [d0]))
  clear g14 g15 hd14 hd15 hw14 hf14 hx14 hb15 t16
  by_cases hlb : Let wb
  case neg =>
    rw [decide_eq_false hlb]
    exact q _ g16 hd16
  rw [decide_eq_true hlb]
  have lb := lok_of okb hlb
  refine ⟨_, rfl, wb, rb, rfl, hb16, lb, g16.tab hT, fun H17 r17 g17 h17 => ?_⟩
  refine ⟨_, rfl, wb, rb, rfl, g17.tu.isW hb16, lb.wok.low, lb.aok, fun H18 r18 g18 h18 => ?_⟩
  refine ⟨F.data (norm wb), F.data (norm wb), g18.tu.isF h17, h18, lb.shaped, lb.shaped, _, rfl, ?_⟩
  rw [F.data_eqv, decide_eq_true rfl]
  have g18 := g17.trans g18
  refine ⟨_, rfl, _, rfl, wd, wb, rw, rb, rfl, g18.tu.isW hw16, g18.tu.isW hb16, lo, lb, (g16.trans (g18.more (ex := [d0]))).tab hT, fun H19 g19 => ?_⟩
  have g19 := g18.trans g19
  refine ⟨_, rfl, wb, rb, rfl, g19.tu.isW hb16, lb.wok.low, lb.aok, fun H20 r20 g20 h20 => ?_⟩
  have g20 := g19.trans g20
  refine ⟨_, rfl, F.data (norm wb), F.data (norm wd), h20, g20.tu.isF hf16, lb.shaped, lo.shaped, rfl, _, rfl, ?_⟩
  have ed : decide (norm wb = norm wd) = decide (norm wd = norm wb) := decide_eq_decide.mpr eq_comm
  rw [F.data_eqv, ed, decide_eq_true rfl]
  have hd20 := g20.dice hd16
  have hw20 := g20.tu.isW hw16
  have hx20 := g20.tu.isW hx16
  have g20 := g16.trans (g20.more (ex := [d0]))
  clear g16 g17 g18 g19 h17 h18 h20 hd16 hw16 hf16 hx16 hb16
  -- more
  refine ⟨_, rfl, d0, 2, rfl, hd20, by decide, by decide, fun H21 rm wm g21 hd21 hm21 om dm => ?_⟩
  have hw21 := g21.tu.isW hw20
  have hx21 := g21.tu.isW hx20
  have g21 := g20.trans g21
  refine ⟨_, rfl, (by show 4 ≤ sizeLine; decide), fun t ht => ?_⟩
  have g22 : Gx P0 [] H21 (upd H21 t (.lst [.str "both", .str "either", .str "mine", .str "theirs"])) := Gx.new ht
  refine ⟨d0, t, _, rfl, g22.dice hd21, SqL.of upd_same, (hd21.ne ht).symm, (by show 0 < 4; decide), (by show 4 < 1000; decide), fun H23 vk g23 hd23 hv => ?_⟩
  obtain ⟨k, rfl⟩ := kd_of_mem hv
  have t23 := g22.tu.trans g23.tu
  have hw23 := t23.isW hw21
  have hx23 := t23.isW hx21
  have hm23 := t23.isW hm21
  have g23 := g21.trans ((g22.more (ex := [d0])).trans g23)
  clear g20 g21 g22 hd20 hd21 hw20 hw21 hx20 hx21 hm21 t23
  refine ⟨_, rfl, _, rfl, _, rfl, (by show 3 ≤ sizeLine; decide), fun t1 ht1 => ?_⟩
  have g24 : Gx P0 [] _ _ := Gx.new (o := .tup [.str k.name, rw, rm]) ht1
  refine ⟨_, rfl, _, rfl, _, rfl, (by show 3 ≤ sizeLine; decide), fun t2 ht2 => ⟨_, _, rfl, ?_⟩⟩
  have g25 : Gx P0 [] _ _ := Gx.new (o := .tup [.str k.name, rm, x3]) ht2
  have gg := g24.trans g25
  have on : IsW K _ (.ref t1) (.nd k wd wm) := isW_mk_nd (g25.tu.seq (SqT.of upd_same)) (gg.tu.isW hw23) (gg.tu.isW hm23)
  have tw : IsW K _ (.ref t2) (.nd k wm wh) := isW_mk_nd (SqT.of upd_same) (gg.tu.isW hm23) (gg.tu.isW hx23)
  have hd25 := gg.dice hd23
  have g25 := g23.trans (gg.more (ex := [d0]))
  have om' := nm3_nm om
  have ok1 : (W.nd k wd wm).ok nm := ⟨okn, om'⟩
  have ok2 : (W.nd k wm wh).ok nm := ⟨om', nm3_nm e3⟩
  have lod := lo.wok.low
  refine ⟨_, rfl, .nd k wd wm, .ref t1, rfl, on, ok1, (by show 1 + max wd.depth wm.depth ≤ 10; omega), fun H26 g26 => ⟨_, rfl, _, rfl, ?_⟩⟩
  by_cases l1 : Let (.nd k wd wm)
  case neg =>
    rw [decide_eq_false l1]
    exact q _ (g25.trans (g26.more (ex := [d0]))) (g26.dice hd25)
  rw [decide_eq_true l1]
  refine ⟨_, rfl, .nd k wm wh, .ref t2, rfl, g26.tu.isW tw, ok2, (by show 1 + max wm.depth wh.depth ≤ 10; omega), fun H27 g27 => ⟨_, rfl, _, rfl, ?_⟩⟩
  have g27 := g26.trans g27
  by_cases l2 : Let (.nd k wm wh)
  case neg =>
    rw [decide_eq_false l2]
    exact q _ (g25.trans (g27.more (ex := [d0]))) (g27.dice hd25)
  rw [decide_eq_true l2]
  have lg := lok_of ok1 l1
  have lg2 := lok_of ok2 l2
  have gT := (g25.trans (g27.more (ex := [d0]))).tab hT
  refine ⟨_, rfl, _, rfl, .nd k wd wm, .nd k wm wh, .ref t1, .ref t2, rfl, g27.tu.isW on, g27.tu.isW tw, lg, lg2, gT, fun H28 g28 => ?_⟩
  have g28 := g27.trans g28
  refine ⟨_, true, rfl, rfl, ?_⟩
  have en : norm (.nd k wd wm) = norm (.nd k wm wh) := norm_give k e1
  rw [decide_eq_true en]
  exact q _ (g25.trans (g28.more (ex := [d0]))) (g28.dice hd25)
end
end K78
set_option Elab.async false
set_option linter.all false
set_option maxRecDepth 100000
/-! K78, part 25: the law. -/
namespace K78
open PySem PySem.Spec PyProof.Rows L2 LamX
def wA : W := .lt "a" 1
def wB : W := .lt "b" 1
def wC : W := .lt "c" 1
def w1 : W := .nd .bo (.nd .bo wB wA) wB
def wSpread : W := .nd .bo wA (.nd .mi wA wB)
def wWide : W := .nd .mi (.nd .bo wB wA) (.nd .bo wA wA)
def w3 : W := .nd .bo wA (.nd .th wA wB)
def w4 : W := .nd .th (.nd .bo wA wA) (.nd .bo wA wB)
def wIn : W := .nd .bo wA (.nd .mi wB wC)
def wDeep : W := .nd .ei (.nd .th wA (.nd .th wB wC)) wIn
def w5 : W := .nd .mi wA wA
def w6 : W := .nd .mi wA (.nd .mi wB wA)
def w7 : W := .nd .mi (.nd .mi wA wA) wB
def fA : F := .lt "a" 1
def fB : F := .lt "b" 1
def fC : F := .lt "c" 1
def fE (p : F) : F := .nd .ei (F.srt [p, norm wIn])
theorem e1 : norm w1 = .nd .bo [fA, fB, fB] := by decide +kernel
theorem e2 : norm wSpread = norm wWide := by decide +kernel
theorem e3 : norm wSpread = .nd .mi [.nd .bo [fA, fA], .nd .bo [fA, fB]] := by decide +kernel
theorem e4 : norm w3 ≠ norm w4 := by decide +kernel
theorem e5 : norm wDeep = .nd .th (F.srt [fE fA, fE fB, fE fC]) := by decide +kernel
theorem e6 : norm w5 ≠ norm wA := by decide +kernel
theorem e7 : norm w6 = norm w7 := by decide +kernel
theorem kA : wA.ok nm := ⟨by decide +kernel, .inl rfl⟩
theorem kB : wB.ok nm := ⟨by decide +kernel, .inl rfl⟩
theorem kC : wC.ok nm := ⟨by decide +kernel, .inl rfl⟩
theorem lA : LOk wA := ⟨⟨kA, by decide +kernel, by decide +kernel⟩, by decide +kernel⟩
theorem l1 : LOk w1 := ⟨⟨⟨⟨kB, kA⟩, kB⟩, by decide +kernel, by decide +kernel⟩, by decide +kernel⟩
theorem lSpread : LOk wSpread := ⟨⟨⟨kA, kA, kB⟩, by decide +kernel, by decide +kernel⟩, by decide +kernel⟩
theorem lWide : LOk wWide := ⟨⟨⟨⟨kB, kA⟩, kA, kA⟩, by decide +kernel, by decide +kernel⟩, by decide +kernel⟩
theorem l3 : LOk w3 := ⟨⟨⟨kA, kA, kB⟩, by decide +kernel, by decide +kernel⟩, by decide +kernel⟩
theorem l4 : LOk w4 := ⟨⟨⟨⟨kA, kA⟩, kA, kB⟩, by decide +kernel, by decide +kernel⟩, by decide +kernel⟩
theorem lIn : LOk wIn := ⟨⟨⟨kA, kB, kC⟩, by decide +kernel, by decide +kernel⟩, by decide +kernel⟩
theorem lDeep : LOk wDeep := ⟨⟨⟨⟨kA, kB, kC⟩, lIn.wok.ok⟩, by decide +kernel, by decide +kernel⟩, by decide +kernel⟩
theorem l5 : LOk w5 := ⟨⟨⟨kA, kA⟩, by decide +kernel, by decide +kernel⟩, by decide +kernel⟩
theorem l6 : LOk w6 := ⟨⟨⟨kA, kB, kA⟩, by decide +kernel, by decide +kernel⟩, by decide +kernel⟩
theorem l7 : LOk w7 := ⟨⟨⟨⟨kA, kA⟩, kB⟩, by decide +kernel, by decide +kernel⟩, by decide +kernel⟩
theorem bf_lt {n : Str} {s : Int} (h : n ∈ nm) : Bf (.lt n s) := ⟨trivial, h, by show 1 ≤ 8388608; decide, by show 1 ≤ 20; decide⟩
theorem bA : Bf fA := bf_lt kA.1
theorem bB : Bf fB := bf_lt kB.1
theorem bC : Bf fC := bf_lt kC.1
theorem fE_gath (n : Str) (i : Int) : fE (.lt n i) = F.gath .ei (.lt n i) (norm wIn) := by
  have h : F.parts .ei (norm wIn) = [norm wIn] := by decide +kernel
  unfold fE F.gath
  rw [h]
  rfl
theorem bIn : Bf (norm wIn) := lIn.aok.bf
theorem bE {n : Str} {i : Int} (h : n ∈ nm) : Bf (fE (.lt n i)) := by
  have b := bf_lt (s := i) h
  have z1 : F.size (norm wIn) ≤ 200 := lIn.few
  have z2 : F.depth (norm wIn) ≤ 15 := by have q := norm_depth wIn; have q2 := lIn.wok.low; omega
  have z3 := F.gath_depth .ei (.lt n i) (norm wIn)
  have z4 : F.depth (.lt n i) = 1 := rfl
  rw [fE_gath]
  refine ⟨F.gath_pos b.pos bIn.pos, F.gath_ok b.ok bIn.ok, ?_, by omega⟩
  rw [F.gath_size]
  show 1 + F.size (norm wIn) ≤ 8388608
  omega
theorem bEs : ∀ f ∈ [fE fA, fE fB, fE fC], Bf f := fun f hf => by
  rcases List.mem_cons.mp hf with rfl | hf
  · exact bE kA.1
  rcases List.mem_cons.mp hf with rfl | hf
  · exact bE kB.1
  rw [List.mem_singleton.mp hf]
  exact bE kC.1
theorem sh1 : SeqAt.shaped (F.data (.nd .bo [fA, fB, fB])) = true := by rw [← e1]; exact l1.shaped
theorem sh3 : SeqAt.shaped (F.data (.nd .mi [.nd .bo [fA, fA], .nd .bo [fA, fB]])) = true := by rw [← e3]; exact lSpread.shaped
theorem sh5 : SeqAt.shaped (F.data (.nd .th (F.srt [fE fA, fE fB, fE fC]))) = true := by rw [← e5]; exact lDeep.shaped
section
variable {pg : Program} {w : World} {K : PySem.W.Frag} {mg : Str → Option Value} {base : Heap} {P0 : Addr}
theorem isWF {H : Hp} {v : V} {n : Str} {s : Int} (h : IsW K H v (.lt n s)) : IsF K H v (.lt n s) := by
  obtain ⟨a, rfl, h2⟩ := isW_lt h
  exact isF_mk_lt h2
theorem Gx.young {d : Addr} {H H1 H2 : Hp} (a : Gx P0 [] H H1) (b : Gx P0 [d] H1 H2) (hn : H d = none) : Gx P0 [] H H2 :=
  ⟨fun c o hc e n => b.ext c o (fun z => by rw [List.mem_singleton.mp z, hn] at e; cases e) (a.ext c o hc e n) n, a.tu.trans b.tu, fun t => b.tab (a.tab t), fun c z => a.old c (b.old c z)⟩
/-- t makes the word wd, the form f, the forms fs -/
def MkW (K : PySem.W.Frag) (P0 : Addr) (σ : L2.St) (H : Hp) (t : TE) (wd : W) : Prop := ∀ (H1 : Hp) (Q : VK), Gx P0 [] H H1 → (∀ H' r, Gx P0 [] H1 H' → IsW K H' r wd → Q r H') → t σ H1 Q
def MkF (K : PySem.W.Frag) (P0 : Addr) (σ : L2.St) (H : Hp) (t : TE) (f : F) : Prop := ∀ (H1 : Hp) (Q : VK), Gx P0 [] H H1 → (∀ H' r, Gx P0 [] H1 H' → IsF K H' r f → Q r H') → t σ H1 Q
def MkFs (K : PySem.W.Frag) (P0 : Addr) (σ : L2.St) (H : Hp) (t : TA) (fs : List F) : Prop := ∀ (H1 : Hp) (Q : List V → Hp → Prop), Gx P0 [] H H1 → (∀ H' vs, Gx P0 [] H1 H' → AreF K H' vs fs → Q vs H') → t σ H1 Q
section
variable {σ : L2.St} {H : Hp} {t ta tb : TE} {k : Kd} {wd wa wb : W} {f : F} {fs : List F} {v : V} {i : Nat} {Q : VK} {sp : Sp}
theorem mk_var (hi : σ[i]? = some (some v)) (h : IsW K H v wd) : MkW K P0 σ H (tVar i) wd := fun H1 Q g q => ⟨_, hi, q H1 v (Gx.refl _ _ _) (g.tu.isW h)⟩
theorem mk_nd (h1 : MkW K P0 σ H ta wa) (h2 : MkW K P0 σ H tb wb) : MkW K P0 σ H (tTup (tCons (tC (.str k.name)) (tCons ta (tCons tb tNil)))) (.nd k wa wb) := fun H1 Q g q => by
  refine h1 H1 _ g fun H2 r2 g2 hr2 => h2 H2 _ (g.trans g2) fun H3 r3 g3 hr3 => ⟨(by show 3 ≤ sizeLine; decide), fun u hu => ?_⟩
  have gu : Gx P0 [] _ _ := Gx.new (o := .tup [.str k.name, r2, r3]) hu
  exact q _ _ ((g2.trans g3).trans gu) (isW_mk_nd (SqT.of upd_same) ((g3.trans gu).tu.isW hr2) (gu.tu.isW hr3))
theorem MkW.call1 (m : MkW K P0 σ H t wd) (h : ∀ H' r, Gx P0 [] H H' → IsW K H' r wd → sp [r] H' Q E0) : tCall sp [] E0 (tCons t tNil) σ H Q := m H _ (Gx.refl _ _ _) h
theorem MkW.call2 (m : MkW K P0 σ H ta wa) (m2 : MkW K P0 σ H tb wb) (h : ∀ H' r r2, Gx P0 [] H H' → IsW K H' r wa → IsW K H' r2 wb → sp [r, r2] H' Q E0) : tCall sp [] E0 (tCons ta (tCons tb tNil)) σ H Q :=
  m H _ (Gx.refl _ _ _) fun H1 r1 g1 h1 => m2 H1 _ g1 fun H2 r2 g2 h2 => h H2 r1 r2 (g1.trans g2) (g2.tu.isW h1) h2
theorem MkW.cons2 {R : List V → Hp → Prop} (m : MkW K P0 σ H ta wa) (m2 : MkW K P0 σ H tb wb) (h : ∀ H' r r2, Gx P0 [] H H' → IsW K H' r wa → IsW K H' r2 wb → R [r, r2] H') : tCons ta (tCons tb tNil) σ H R :=
  m H _ (Gx.refl _ _ _) fun H1 r1 g1 h1 => m2 H1 _ g1 fun H2 r2 g2 h2 => h H2 r1 r2 (g1.trans g2) (g2.tu.isW h1) h2
theorem MkW.run (m : MkW K P0 σ H t wd) (h : ∀ H' r, Gx P0 [] H H' → IsW K H' r wd → Q r H') : t σ H Q := m H _ (Gx.refl _ _ _) h
theorem MkF.run (m : MkF K P0 σ H t f) (h : ∀ H' r, Gx P0 [] H H' → IsF K H' r f → Q r H') : t σ H Q := m H _ (Gx.refl _ _ _) h
theorem mf_var (hi : σ[i]? = some (some v)) (h : IsF K H v f) : MkF K P0 σ H (tVar i) f := fun H1 Q g q => ⟨_, hi, q H1 v (Gx.refl _ _ _) (g.tu.isF h)⟩
theorem mf_nil : MkFs K P0 σ H tNil [] := fun H1 Q g q => q H1 [] (Gx.refl _ _ _) AreF.nil
theorem mf_cons {u : TA} (m : MkF K P0 σ H t f) (m2 : MkFs K P0 σ H u fs) : MkFs K P0 σ H (tCons t u) (f :: fs) := fun H1 Q g q =>
  m H1 _ g fun H2 r2 g2 h2 => m2 H2 _ (g.trans g2) fun H3 vs g3 h3 => q H3 (r2 :: vs) (g2.trans g3) (AreF.cons (g3.tu.isF h2) h3)
theorem mf_nd {u : TA} (m : MkFs K P0 σ H u fs) (hl : fs.length ≤ 100) : MkF K P0 σ H (tTup (tCons (tC (.str k.name)) (tCons (tTup u) tNil))) (.nd k fs) := fun H1 Q g q => by
  refine m H1 _ g fun H2 vs g2 h2 => ⟨?_, fun x hx => ⟨(by show 2 ≤ sizeLine; decide), fun y hy => ?_⟩⟩
  · rw [h2.len]
    exact Nat.le_of_lt (big_of (by omega))
  have gx : Gx P0 [] _ _ := Gx.new (o := .tup vs) hx
  have gy : Gx P0 [] _ _ := Gx.new (o := .tup [.str k.name, .ref x]) hy
  exact q _ _ ((g2.trans gx).trans gy) (isF_mk_nd (c := x) (SqT.of upd_same) (gy.tu.seq (SqT.of upd_same)) ((gx.trans gy).tu.areF h2))
end
abbrev sLaw : Stmt := topS 55
abbrev nLaw : List Str := ["_law_script", "_law_spot", "_law_dice_here", "_law_turn", "_law_one", "_law_two", "_law_three", "_law_spread", "_law_wide", "_law_deep", "_law_due", "_law_part"]
theorem scLaw : FnScope nLaw ["_law_script"] (defScope sLaw) := ⟨rfl, rfl, rfl, by decide +kernel, rfl, by decide +kernel, by decide +kernel⟩
def spLaw (K : PySem.W.Frag) (P0 : Addr) : Sp := fun vs H Q _ => ∃ (a : Addr) (ns : List Int), vs = [.ref a] ∧ SqL K H a (ns.map V.int) ∧ TabS H P0 lamQ ∧ ∀ H', Q (.bl true) H'
set_option maxHeartbeats 4000000 in
theorem ok_law (T : Txt K mg w) (L : Lib pg w K mg base P0) (dd : Def K mg "_law_dice" sDice ["_law_script", "_law_spot"]) (dr : Def K mg "_law_right" sRight ["_law_dice_here"]) (d : Def K mg "law" sLaw ["_law_script"])
    (Gd : FnOk pg w K mg base CX0 33 dd.f dd.fd ["_law_script", "_law_spot"] (spDice K P0)) (Gr : FnOk pg w K mg base CX0 33 dr.f dr.fd ["_law_dice_here"] (spRight K P0)) : FnOk pg w K mg base CX0 34 d.f d.fd ["_law_script"] (spLaw K P0) := by
  refine d.fn.ok scLaw (fun vs H Q E h => ?_) (fun cdv A outer s H vs Q E hr0 h => ?_)
  · obtain ⟨a, ns, rfl, _⟩ := h
    rfl
  have hr := hr0.mono (show 32 ≤ 33 by decide)
  obtain ⟨a, ns, rfl, hs, hT, q⟩ := h
  refine ⟨_, pss_cons (ps_for PassesOwn.never rfl (pi_range1 rfl T.range (pa_cons (pe_callB (call_max2 rfl) rfl T.max (by decide +kernel) (pa_cons pe_int (pa_cons (pe_callB (call_min2 rfl) rfl T.min (by decide +kernel) (pa_cons pe_int (pa_cons (pe_callB call_len_seq rfl T.len PySem.boot_len (pa_cons (pv 0) pa_nil)) pa_nil))) pa_nil))) pa_nil)) (pg_name (i := 1) scLaw.nd rfl (Or.inl rfl))
      (pss_cons (ps_set (i := 2) scLaw.nd rfl (Or.inl rfl) (pe_def dd Gd hr0 (pa_cons (pv 0) (pa_cons (pv 1) pa_nil))))
      (pss_one (ps_for PassesOwn.never rfl (pi_range1 rfl T.range (pa_cons pe_int pa_nil)) (pg_name (i := 3) scLaw.nd rfl (Or.inl rfl))
        (pss_one (ps_if (pt_not (pt_val (pe_def dr Gr hr0 (pa_cons (pv 2) pa_nil)))) (pss_one (ps_ret pe_bl)) pss_nil))))))
    (pss_cons (ps_asg (pe_tup (pa_cons (pe_tup (pa_cons pe_str (pa_cons pe_str (pa_cons pe_int pa_nil)))) (pa_cons (pe_tup (pa_cons pe_str (pa_cons pe_str (pa_cons pe_int pa_nil)))) (pa_cons (pe_tup (pa_cons pe_str (pa_cons pe_str (pa_cons pe_int pa_nil)))) pa_nil))))
        (pg_tup rfl (pgs_cons (pg_name (i := 4) scLaw.nd rfl (Or.inl rfl)) (pgs_cons (pg_name (i := 5) scLaw.nd rfl (Or.inl rfl)) (pgs_cons (pg_name (i := 6) scLaw.nd rfl (Or.inl rfl)) pgs_nil)))))
    (pss_cons (ps_if (PW.pt (pw_or (pt_cmpR (op_neD hr.units) (pe_def L.dNormal L.gNormal hr (pa_cons (pe_tup (pa_cons pe_str (pa_cons (pe_tup (pa_cons pe_str (pa_cons (pv 5) (pa_cons (pv 4) pa_nil)))) (pa_cons (pv 5) pa_nil)))) pa_nil)) (pe_tup (pa_cons pe_str (pa_cons (pe_tup (pa_cons (pv 4) (pa_cons (pv 5) (pa_cons (pv 5) pa_nil)))) pa_nil))) (nomark _))
        (pw_or1 (pt_cmpR (op_neD hr.units) (pe_def L.dNormal L.gNormal hr (pa_cons (pv 4) pa_nil)) (pv 4) (nomark _))))) (pss_one (ps_ret pe_bl)) pss_nil)
    (pss_cons (ps_par (i := 7) (j := 8) rfl scLaw.nd rfl rfl (by decide) rfl rfl (pa_cons (pe_tup (pa_cons pe_str (pa_cons (pv 4) (pa_cons (pe_tup (pa_cons pe_str (pa_cons (pv 4) (pa_cons (pv 5) pa_nil)))) pa_nil))))
        (pa_cons (pe_tup (pa_cons pe_str (pa_cons (pe_tup (pa_cons pe_str (pa_cons (pv 5) (pa_cons (pv 4) pa_nil)))) (pa_cons (pe_tup (pa_cons pe_str (pa_cons (pv 4) (pa_cons (pv 4) pa_nil)))) pa_nil)))) pa_nil)) (by rfl))
    (pss_cons (ps_if (PW.pt (pw_or (pt_not (pt_val (pe_def L.dAlike L.gAlike hr (pa_cons (pv 7) (pa_cons (pv 8) pa_nil))))) (pw_or1 (pt_cmpR (op_neD hr.units) (pe_def L.dNormal L.gNormal hr (pa_cons (pv 7) pa_nil))
        (pe_tup (pa_cons pe_str (pa_cons (pe_tup (pa_cons (pe_tup (pa_cons pe_str (pa_cons (pe_tup (pa_cons (pv 4) (pa_cons (pv 4) pa_nil))) pa_nil))) (pa_cons (pe_tup (pa_cons pe_str (pa_cons (pe_tup (pa_cons (pv 4) (pa_cons (pv 5) pa_nil))) pa_nil))) pa_nil))) pa_nil))) (nomark _))))) (pss_one (ps_ret pe_bl)) pss_nil)
    (pss_cons (ps_if (pt_val (pe_def L.dAlike L.gAlike hr (pa_cons (pe_tup (pa_cons pe_str (pa_cons (pv 4) (pa_cons (pe_tup (pa_cons pe_str (pa_cons (pv 4) (pa_cons (pv 5) pa_nil)))) pa_nil))))
        (pa_cons (pe_tup (pa_cons pe_str (pa_cons (pe_tup (pa_cons pe_str (pa_cons (pv 4) (pa_cons (pv 4) pa_nil)))) (pa_cons (pe_tup (pa_cons pe_str (pa_cons (pv 4) (pa_cons (pv 5) pa_nil)))) pa_nil)))) pa_nil)))) (pss_one (ps_ret pe_bl)) pss_nil)
    (pss_cons (ps_set (i := 9) scLaw.nd rfl (Or.inr rfl) (pe_tup (pa_cons pe_str (pa_cons (pe_tup (pa_cons pe_str (pa_cons (pv 4) (pa_cons (pe_tup (pa_cons pe_str (pa_cons (pv 5) (pa_cons (pv 6) pa_nil)))) pa_nil))))
        (pa_cons (pe_tup (pa_cons pe_str (pa_cons (pv 4) (pa_cons (pe_tup (pa_cons pe_str (pa_cons (pv 5) (pa_cons (pv 6) pa_nil)))) pa_nil)))) pa_nil)))))
    (pss_cons (ps_set (i := 10) scLaw.nd rfl (Or.inl rfl) (pe_tup (pa_cons pe_str (pa_cons (pe_callTy call_tuple_of rfl T.tuple (by decide +kernel) (pa_cons (pe_callB (cr_sortedF nm_ok hr) rfl T.sorted (by decide +kernel) (pa_cons
        (pe_lc (own := [("_law_part", 11)]) (g := gName 11) (tt := tYes) (te := tTup (tCons (tC (.str "either")) (tCons (tCB (rTupL K) (tCons (tCB (rSortF nm K) (tCons (tLst (tCons (tVar 11) (tCons (tCall (spNormal K P0) [] E0 (tCons (tOp (rIxT K) (tVar 9) (tC (.int 2))) tNil)) tNil))) tNil)) tNil)) tNil)))
          rfl scLaw.nd (pi_tup (pe_tup (pa_cons (pv 4) (pa_cons (pv 5) (pa_cons (pv 6) pa_nil))))) (blkOk_by (N := nLaw) (sc := defScope sLaw) (by decide +kernel))
          (fun _ _ _ _ _ => pg_name (i := 11) scLaw.nd rfl (Or.inl rfl)) (fun _ _ _ _ _ => pts_nil)
          (fun _ _ _ _ _ => pe_tup (pa_cons pe_str (pa_cons (pe_callTy call_tuple_of rfl T.tuple (by decide +kernel) (pa_cons (pe_callB (cr_sortedF nm_ok hr) rfl T.sorted (by decide +kernel) (pa_cons
            (pe_lst (pa_cons (pv 11) (pa_cons (pe_def L.dNormal L.gNormal hr (pa_cons (pe_ix ix_tup (pv 9) pe_int (fun _ _ => rfl)) pa_nil)) pa_nil))) pa_nil)) pa_nil)) pa_nil)))) pa_nil)) pa_nil)) pa_nil))))
    (pss_one (ps_ret (pe_and (pe_cmpR (op_eqD hr.units) (pe_def L.dNormal L.gNormal hr (pa_cons (pv 9) pa_nil)) (pv 10) rfl)
      (pe_and (pe_not (pe_def L.dAlike L.gAlike hr (pa_cons (pe_tup (pa_cons pe_str (pa_cons (pv 4) (pa_cons (pv 4) pa_nil)))) (pa_cons (pv 4) pa_nil))))
      (pe_one (pe_def L.dAlike L.gAlike hr (pa_cons (pe_tup (pa_cons pe_str (pa_cons (pv 4) (pa_cons (pe_tup (pa_cons pe_str (pa_cons (pv 5) (pa_cons (pv 4) pa_nil)))) pa_nil))))
        (pa_cons (pe_tup (pa_cons pe_str (pa_cons (pe_tup (pa_cons pe_str (pa_cons (pv 4) (pa_cons (pv 4) pa_nil)))) (pa_cons (pv 5) pa_nil)))) pa_nil))))))))))))))), ?_⟩
  -- the dice of each spot
  refine ⟨_, rfl, a, _, rfl, .inl hs, _, _, rfl, _, _, rfl, _, rfl, ?_, ?_, ?_⟩
  · split <;> split <;> omega
  · split <;> split <;> omega
  refine for_range (lo := 0) (fun _ σ Hc => ∃ x1 x2 x3, σ = [some (.ref a), x1, x2, x3, none, none, none, none, none, none, none, none] ∧ Gx P0 [] H Hc) ⟨none, none, none, rfl, Gx.refl _ _ _⟩ (fun i σ Hc hi h => ?_) (fun σ Hc h => ?_)
  · obtain ⟨x1, x2, x3, rfl, g⟩ := h
    refine ⟨_, rfl, _, rfl, a, ns, i, congrArg (fun z => [V.ref a, V.int z]) (Int.zero_add _), g.seqL (by simp) hs, fun H1 d1 g1 hn hd1 => ?_⟩
    have hdH : H d1 = none := g.old _ hn
    refine ⟨8, rfl, by decide, by decide, ?_⟩
    refine for_range (lo := 0) (fun _ σ Hd => ∃ x1 x3, σ = [some (.ref a), x1, some (.ref d1), x3, none, none, none, none, none, none, none, none] ∧ Gx P0 [] H Hd ∧ Dice Hd d1) ⟨_, _, rfl, g.trans g1, hd1⟩ (fun j σ Hd hj h => ?_) (fun σ Hd h => ?_)
    · obtain ⟨x1, x3, rfl, g2, hd2⟩ := h
      refine ⟨_, rfl, d1, rfl, hd2, g2.tab hT, fun H3 g3 hd3 => ⟨true, rfl, ?_⟩⟩
      exact ⟨_, _, rfl, g2.young g3 hdH, hd3⟩
    · obtain ⟨x1, x3, rfl, g2, hd2⟩ := h
      exact ⟨_, _, _, rfl, g2⟩
  obtain ⟨x1, x2, x3, rfl, g⟩ := h
  -- the letters
  refine ⟨(by show 3 ≤ sizeLine; decide), fun t1 ht1 => ⟨(by show 3 ≤ sizeLine; decide), fun t2 ht2 => ⟨(by show 3 ≤ sizeLine; decide), fun t3 ht3 => ⟨(by show 3 ≤ sizeLine; decide), fun t4 ht4 => ?_⟩⟩⟩⟩
  have g1 : Gx P0 [] _ _ := Gx.new (o := .tup [.str "letter", .str "a", .int 1]) ht1
  have g2 : Gx P0 [] _ _ := Gx.new (o := .tup [.str "letter", .str "b", .int 1]) ht2
  have g3 : Gx P0 [] _ _ := Gx.new (o := .tup [.str "letter", .str "c", .int 1]) ht3
  have g4 : Gx P0 [] _ _ := Gx.new (o := .tup [.ref t1, .ref t2, .ref t3]) ht4
  have vA : IsW K _ (.ref t1) wA := isW_mk_lt (((g2.trans g3).trans g4).tu.seq (SqT.of upd_same))
  have vB : IsW K _ (.ref t2) wB := isW_mk_lt ((g3.trans g4).tu.seq (SqT.of upd_same))
  have vC : IsW K _ (.ref t3) wC := isW_mk_lt (g4.tu.seq (SqT.of upd_same))
  refine ⟨t4, _, rfl, SqT.of upd_same, rfl, _, _, rfl, _, _, rfl, _, _, rfl, rfl, ?_⟩
  have gg := g.trans (((g1.trans g2).trans g3).trans g4)
  clear g g1 g2 g3 g4
  generalize upd (upd (upd (upd Hc t1 _) t2 _) t3 _) t4 _ = H1 at vA vB vC gg
  have fA' := isWF vA
  have fB' := isWF vB
  have fC' := isWF vC
  -- [18.4] by hand
  dsimp only [gName, gCons, gNil]
  dsimp only [tSeq, tIfS, tOr, tTest, tOp]
  refine MkW.call1 (P0 := P0) (mk_nd (k := .bo) (mk_nd (k := .bo) (mk_var (i := 5) (by rfl) vB) (mk_var (i := 4) (by rfl) vA)) (mk_var (i := 5) (by rfl) vB)) fun H2 r2 g2 h2 => ?_
  refine ⟨w1, r2, rfl, h2, l1, (gg.trans g2).tab hT, fun H3 r3 g3 h3 => ?_⟩
  have g3 := g2.trans g3
  refine MkF.run (P0 := P0) (mf_nd (k := .bo) (mf_cons (mf_var (i := 4) (by rfl) (g3.tu.isF fA')) (mf_cons (mf_var (i := 5) (by rfl) (g3.tu.isF fB')) (mf_cons (mf_var (i := 5) (by rfl) (g3.tu.isF fB')) mf_nil))) (by decide)) fun H4 r4 g4 h4 => ?_
  refine ⟨F.data (norm w1), F.data (.nd .bo [fA, fB, fB]), g4.tu.isF h3, h4, l1.shaped, sh1, _, rfl, ?_⟩
  rw [F.data_eqv, decide_eq_true e1]
  have g4 := g3.trans g4
  refine ⟨_, rfl, wA, _, rfl, g4.tu.isW vA, lA, (gg.trans g4).tab hT, fun H5 r5 g5 h5 => ?_⟩
  have g5 := g4.trans g5
  refine ⟨_, rfl, F.data (norm wA), F.data (norm wA), h5, g5.tu.isF fA', lA.shaped, lA.shaped, _, rfl, ?_⟩
  rw [F.data_eqv, decide_eq_true rfl]
  rw [if_neg (by decide)]
  dsimp only [tNext, tSeq, tPar]
  have gg := gg.trans g5
  have vA := g5.tu.isW vA
  have vB := g5.tu.isW vB
  have vC := g5.tu.isW vC
  clear fA' fB' fC' g2 g3 g4 g5 h2 h3 h4 h5
  -- both over mine
  refine MkW.cons2 (P0 := P0) (mk_nd (k := .bo) (mk_var (i := 4) (by rfl) vA) (mk_nd (k := .mi) (mk_var (i := 4) (by rfl) vA) (mk_var (i := 5) (by rfl) vB)))
    (mk_nd (k := .mi) (mk_nd (k := .bo) (mk_var (i := 5) (by rfl) vB) (mk_var (i := 4) (by rfl) vA)) (mk_nd (k := .bo) (mk_var (i := 4) (by rfl) vA) (mk_var (i := 4) (by rfl) vA))) fun H6 rs rv g6 hs6 hv6 => ?_
  refine ⟨_, _, rfl, ?_⟩
  have gg := gg.trans g6
  have vA := g6.tu.isW vA
  have vB := g6.tu.isW vB
  have vC := g6.tu.isW vC
  clear g6
  refine ⟨_, rfl, _, rfl, wSpread, wWide, rs, rv, rfl, hs6, hv6, lSpread, lWide, gg.tab hT, fun H7 g7 => ⟨decide (norm wSpread = norm wWide), rfl, ?_⟩⟩
  rw [decide_eq_true e2]
  refine ⟨_, rfl, wSpread, rs, rfl, g7.tu.isW hs6, lSpread, (gg.trans g7).tab hT, fun H8 r8 g8 h8 => ?_⟩
  have g8 := g7.trans g8
  have fA' := isWF (g8.tu.isW vA)
  have fB' := isWF (g8.tu.isW vB)
  refine MkF.run (P0 := P0) (mf_nd (k := .mi) (mf_cons (mf_nd (k := .bo) (mf_cons (mf_var (i := 4) (by rfl) fA') (mf_cons (mf_var (i := 4) (by rfl) fA') mf_nil)) (by decide)) (mf_cons (mf_nd (k := .bo) (mf_cons (mf_var (i := 4) (by rfl) fA') (mf_cons (mf_var (i := 5) (by rfl) fB') mf_nil)) (by decide)) mf_nil)) (by decide)) fun H9 r9 g9 h9 => ?_
  refine ⟨F.data (norm wSpread), F.data (.nd .mi [.nd .bo [fA, fA], .nd .bo [fA, fB]]), g9.tu.isF h8, h9, lSpread.shaped, sh3, _, rfl, ?_⟩
  rw [F.data_eqv, decide_eq_true e3]
  dsimp only
  rw [if_neg (by decide)]
  dsimp only [tNext, tSeq, tIfS, tB]
  have g9 := g8.trans g9
  have gg := gg.trans g9
  have vA := g9.tu.isW vA
  have vB := g9.tu.isW vB
  have vC := g9.tu.isW vC
  clear g7 g8 g9 h8 h9 fA' fB' hs6 hv6
  -- both does not go over theirs
  refine MkW.call2 (P0 := P0) (mk_nd (k := .bo) (mk_var (i := 4) (by rfl) vA) (mk_nd (k := .th) (mk_var (i := 4) (by rfl) vA) (mk_var (i := 5) (by rfl) vB)))
    (mk_nd (k := .th) (mk_nd (k := .bo) (mk_var (i := 4) (by rfl) vA) (mk_var (i := 4) (by rfl) vA)) (mk_nd (k := .bo) (mk_var (i := 4) (by rfl) vA) (mk_var (i := 5) (by rfl) vB))) fun H10 rx ry g10 hx hy => ?_
  refine ⟨w3, w4, rx, ry, rfl, hx, hy, l3, l4, (gg.trans g10).tab hT, fun H11 g11 => ⟨decide (norm w3 = norm w4), rfl, ?_⟩⟩
  rw [decide_eq_false e4]
  rw [if_neg (by decide)]
  have g11 := g10.trans g11
  have gg := gg.trans g11
  have vA := g11.tu.isW vA
  have vB := g11.tu.isW vB
  have vC := g11.tu.isW vC
  clear g10 g11 hx hy
  -- deep
  dsimp only [tAsg]
  refine MkW.run (P0 := P0) (mk_nd (k := .ei) (mk_nd (k := .th) (mk_var (i := 4) (by rfl) vA) (mk_nd (k := .th) (mk_var (i := 5) (by rfl) vB) (mk_var (i := 6) (by rfl) vC)))
    (mk_nd (k := .bo) (mk_var (i := 4) (by rfl) vA) (mk_nd (k := .mi) (mk_var (i := 5) (by rfl) vB) (mk_var (i := 6) (by rfl) vC)))) fun H12 rd g12 hd12 => ?_
  have hd12 : IsW K H12 rd wDeep := hd12
  have gg := gg.trans g12
  have vA := g12.tu.isW vA
  have vB := g12.tu.isW vB
  have vC := g12.tu.isW vC
  clear g12
  obtain ⟨b5, y1, y2, rfl, hs12, _, hin⟩ := isW_nd hd12
  dsimp only [gName, tSeq, tAsg]
  refine rd_sorted (P0 := P0) (k := .th) (fs := [fE fA, fE fB, fE fC]) (fun Q H h => by exact h) (fun Q' hQ => ?_) bEs fun H20 rdue g20 h20 => ?_
  · refine ⟨_, rfl, _, rfl, _, rfl, (by show 3 ≤ sizeLine; decide), fun c1 hc1 => ⟨c1, rfl, ⟨_, SqT.of upd_same⟩, fun D hD => ?_⟩⟩
    have g13 : Gx P0 [] _ _ := Gx.new (o := .tup [.ref t1, .ref t2, .ref t3]) hc1
    have hT13 : upd H12 c1 (.tup [.ref t1, .ref t2, .ref t3]) c1 = some (.tup [.ref t1, .ref t2, .ref t3]) := upd_same
    have hD : upd H12 c1 (.tup [.ref t1, .ref t2, .ref t3]) D = none := hD
    have pA := isWF (g13.tu.isW vA)
    have pB := isWF (g13.tu.isW vB)
    have pC := isWF (g13.tu.isW vC)
    have pp : AreF K (upd H12 c1 (.tup [.ref t1, .ref t2, .ref t3])) [.ref t1, .ref t2, .ref t3] [fA, fB, fC] := AreF.cons pA (AreF.cons pB (AreF.cons pC AreF.nil))
    refine it_tup (K := K) (xs := [.ref t1, .ref t2, .ref t3]) (fun i H7 => Gx P0 [] (upd H12 c1 (.tup [.ref t1, .ref t2, .ref t3])) H7 ∧ ∃ acc, H7 D = some (.lst acc) ∧ AreF K H7 acc (([fA, fB, fC].take i).map fE))
      ⟨Gx.new hD, [], upd_same, AreF.nil⟩ (fun i H7 _ h7 => SqT.of (h7.1.tupA hT13)) (fun i x H7 hi h7 => ?_) (fun H7 h7 => ?_)
    · obtain ⟨g7, acc, hD7, hacc⟩ := h7
      obtain ⟨p, ep, hp⟩ := pp.get' hi
      have hp7 := g7.tu.isF hp
      have bp : Bf p := by
        have m := List.mem_of_getElem? ep
        rcases List.mem_cons.mp m with rfl | m
        · exact bA
        rcases List.mem_cons.mp m with rfl | m
        · exact bB
        rw [List.mem_singleton.mp m]
        exact bC
      refine ⟨rfl, ?_⟩
      dsimp only [tYes]
      rw [if_pos rfl]
      refine rd_sorted (P0 := P0) (k := .ei) (fs := [p, norm wIn]) (fun Q H h => by exact h) (fun Q2 hQ2 => ?_) (fun f hf => ?_) fun H14 r g14 h14 => ?_
      · have g15 := g13.trans g7
        refine ⟨_, rfl, _, rfl, b5, _, 2, _, rfl, rfl, g15.tu.seq hs12, atI_nat (j := 2) rfl, wIn, y2, rfl, g15.tu.isW hin, lIn, (gg.trans g15).tab hT, fun H16 r16 g16 h16 => ⟨(by show 2 ≤ sizeLine; decide), fun z hz => ?_⟩⟩
        have g17 : Gx P0 [] _ _ := Gx.new (o := .lst [x, r16]) hz
        exact hQ2 _ z _ (g16.trans g17) upd_same (AreF.cons ((g16.trans g17).tu.isF hp7) (AreF.cons (g17.tu.isF h16) AreF.nil))
      · rcases List.mem_cons.mp hf with rfl | hf
        · exact bp
        rw [List.mem_singleton.mp hf]
        exact bIn
      · have hD14 := g14.lstA (by simp) hD7
        have tt := Tu.lst (o := .lst (acc ++ [r])) hD14
        refine ⟨acc, hD14, ?_, (g7.trans g14).own hD hD14, acc ++ [r], upd_same, ?_⟩
        · have z := hacc.len
          rw [List.length_map, List.length_take] at z
          have z2 : [fA, fB, fC].length = 3 := rfl
          exact big_of (by omega)
        · rw [take_snoc ep, List.map_append]
          exact ((g14.tu.trans tt).areF hacc).snoc (tt.isF h14)
    · obtain ⟨g7, acc, hD7, hacc⟩ := h7
      exact hQ _ D acc (g13.trans g7) hD7 hacc
  -- the end
  dsimp only [tRet, tAndV, tOp]
  have hd20 := g20.tu.isW hd12
  have vA := g20.tu.isW vA
  have vB := g20.tu.isW vB
  have gg := gg.trans g20
  refine ⟨_, rfl, wDeep, .ref b5, rfl, hd20, lDeep, gg.tab hT, fun H21 r21 g21 h21 => ?_⟩
  refine ⟨_, rfl, F.data (norm wDeep), F.data (.nd .th (F.srt [fE fA, fE fB, fE fC])), h21, g21.tu.isF h20, lDeep.shaped, sh5, _, rfl, ?_⟩
  rw [F.data_eqv, decide_eq_true e5, if_pos rfl]
  dsimp only [tNotV]
  have vA := g21.tu.isW vA
  have vB := g21.tu.isW vB
  have gg := gg.trans g21
  refine MkW.call2 (P0 := P0) (mk_nd (k := .mi) (mk_var (i := 4) (by rfl) vA) (mk_var (i := 4) (by rfl) vA)) (mk_var (i := 4) (by rfl) vA) fun H22 rx ry g22 hx hy => ?_
  refine ⟨w5, wA, rx, ry, rfl, hx, hy, l5, lA, (gg.trans g22).tab hT, fun H23 g23 => ⟨_, rfl, _, rfl, ?_⟩⟩
  rw [decide_eq_false e6, if_pos (by decide)]
  have g23 := g22.trans g23
  have vA := g23.tu.isW vA
  have vB := g23.tu.isW vB
  have gg := gg.trans g23
  refine MkW.call2 (P0 := P0) (mk_nd (k := .mi) (mk_var (i := 4) (by rfl) vA) (mk_nd (k := .mi) (mk_var (i := 5) (by rfl) vB) (mk_var (i := 4) (by rfl) vA)))
    (mk_nd (k := .mi) (mk_nd (k := .mi) (mk_var (i := 4) (by rfl) vA) (mk_var (i := 4) (by rfl) vA)) (mk_var (i := 5) (by rfl) vB)) fun H24 rx ry g24 hx hy => ?_
  refine ⟨w6, w7, rx, ry, rfl, hx, hy, l6, l7, (gg.trans g24).tab hT, fun H25 g25 => ?_⟩
  rw [decide_eq_true e7]
  exact q _
end
end K78
set_option Elab.async false
set_option linter.all false
set_option maxRecDepth 100000
/-! K78, part 26: all defs together. -/
namespace K78
open PySem PySem.Spec PyProof.Rows L2 LamX
/-- a def found at the top -/
theorem mk_def {K : PySem.W.Frag} {h : Heap} {mg : Str → Option Value} {x : Str} {st : Stmt} {ps : List Str} {f : Addr} {oc kV dc pm cd ct : Value} {od an : Option Addr} {sl : Array (Option Value)} (X : K.In h) (G : h.Ns mainGlobals mg)
    (hb : ∀ (kV doc pm : Value) (an : Option Addr) (cdv ct : Value) (us : List Value), us.length = ps.length → bindArgs (PySem.W.fnOf x x (defArgs st) (defBody st) (defScope st) .none kV doc pm an cdv ct) ⟨us, []⟩ = pure (ps.zip us))
    (a : PySem.W.nsIn K mainGlobals x = some (some (.ref f))) (l : K.lookup f = some ⟨oc, od, .func (PySem.W.fnOf x x (defArgs st) (defBody st) (defScope st) .none kV dc pm an cd ct), sl⟩) (c : PySem.W.codeIn K cd x = true) (k : PySem.W.keepIn K (.ref f) = true) :
    ∃ d : Def K mg x st ps, d.f = f ∧ d.fd.code = cd := by
  have F1 := fun_mk (st := st) l c k
  exact ⟨⟨f, _, F1, F1.binds hb, PySem.W.mg_of X G a⟩, rfl, rfl⟩
theorem seq_of {K : PySem.W.Frag} {a : Addr} {xs : List V} {its : Array Value} {od : Option Addr} {n : Nat} {sl : Array (Option Value)} (l : K.lookup a = some ⟨.type "tuple", od, .seq its n, sl⟩) (hz : its.size ≤ sizeLine) (r : Vals xs its.toList) (H : Hp) : SqT K H a xs :=
  .inr ⟨_, its, n, l, rfl, rfl, hz, r⟩
theorem str_v (x : Str) (t : Tok) : RelV (.str x) (.str x t) := ⟨t, rfl⟩
structure AllD (K : PySem.W.Frag) (mg : Str → Option Value) where
  d16 : Def K mg "is_whole" sWhole ["value"]
  d17 : Def K mg "is_name" sName ["value"]
  d18 : Def K mg "is_node" sNode ["value"]
  d19 : Def K mg "is_word_in" sWordIn ["value"]
  d20 : Def K mg "way_count_in" sCnt ["word"]
  d21 : Def K mg "require_word" sReq ["value"]
  d22 : Def K mg "require_two_words" sReq2 ["one", "other"]
  d28 : Def K mg "bare" sBare ["form"]
  d29 : Def K mg "form_letters" sFLet ["form"]
  d30 : Def K mg "parts_by" sPBy ["kind", "form"]
  d31 : Def K mg "gathered" sGath ["kind", "forms"]
  d32 : Def K mg "need_form" sNeed ["many"]
  d33 : Def K mg "form_in" sForm ["word", "path"]
  d34 : Def K mg "copy_count" sCopy ["word"]
  d35 : Def K mg "normal" sNormal ["word"]
  d36 : Def K mg "are_alike" sAlike ["one", "other"]
  d38 : Def K mg "_law_dice" sDice ["_law_script", "_law_spot"]
  d39 : Def K mg "_law_roll" sRoll ["_law_dice_here", "_law_most"]
  d40 : Def K mg "_law_pick" sPick nPick
  d41 : Def K mg "_law_dr_turned" sTurn ["_law_word"]
  d42 : Def K mg "_law_dr_letters" sLets ["_law_word"]
  d43 : Def K mg "_law_dr_depth" sDep ["_law_word"]
  d44 : Def K mg "_law_dr_letter" sLetr ["_law_dice_here"]
  d45 : Def K mg "_law_dr_word" sWord ["_law_dice_here", "_law_deep"]
  d46 : Def K mg "_law_al_forms" sAlF nAlF
  d47 : Def K mg "_law_al_form" sAl ["_law_word"]
  d48 : Def K mg "_law_al_moved" sMov ["_law_dice_here", "_law_word"]
  d49 : Def K mg "_law_al_near" sNear ["_law_dice_here", "_law_word"]
  d50 : Def K mg "_law_al_turned_form" sTF ["_law_form"]
  d51 : Def K mg "_law_fm_size" sFS ["_law_form"]
  d52 : Def K mg "_law_fm_bent" sBent ["_law_dice_here", "_law_word"]
  d53 : Def K mg "_law_fm_is_let" sLet ["_law_word"]
  d54 : Def K mg "_law_right" sRight ["_law_dice_here"]
  d55 : Def K mg "law" sLaw ["_law_script"]
theorem law_fn {pg : Program} {w : World} {K : PySem.W.Frag} {mg : Str → Option Value} {base : Heap} {P0 c : Addr} (T : Txt K mg w) (D : AllD K mg) (hc : D.d31.fd.code = .ref c) (TB : TabB base mg c P0) : FnOk pg w K mg base CX0 34 D.d55.f D.d55.fd ["_law_script"] (spLaw K P0) := by
  have G16 : FnOk pg w K mg base CX0 1 D.d16.f D.d16.fd ["value"] spWhole := ok_whole T D.d16
  have G17 : FnOk pg w K mg base CX0 1 D.d17.f D.d17.fd ["value"] (spName P0) := ok_name T D.d17
  have G18 : FnOk pg w K mg base CX0 2 D.d18.f D.d18.fd ["value"] (spNode K P0) := ok_node T D.d18 D.d17 D.d16 G17 G16
  have G19 : FnOk pg w K mg base CX0 3 D.d19.f D.d19.fd ["value"] (spWordIn K P0) := ok_wordIn T D.d19 D.d18 G18
  have G20 : FnOk pg w K mg base CX0 8 D.d20.f D.d20.fd ["word"] (spCnt K P0 8) := ok_cnt T D.d20 8
  have G21 : FnOk pg w K mg base CX0 4 D.d21.f D.d21.fd ["value"] (spReq K P0) := ok_req D.d21 D.d19 G19
  have G22 : FnOk pg w K mg base CX0 5 D.d22.f D.d22.fd ["one", "other"] (spReq2 K P0) := ok_req2 D.d22 D.d21 G21
  have G28 : FnOk pg w K mg base CX0 20 D.d28.f D.d28.fd ["form"] (spBare K P0 20) := ok_bare T D.d28 20
  have G29 : FnOk pg w K mg base CX0 20 D.d29.f D.d29.fd ["form"] (spFLet K P0 20) := ok_flet T D.d29 20
  have G30 : FnOk pg w K mg base CX0 1 D.d30.f D.d30.fd ["kind", "form"] (spPBy K P0) := ok_pby T D.d30
  have G31 : FnOk pg w K mg base CX0 23 D.d31.f D.d31.fd ["kind", "forms"] (spGath K P0) := ok_gath T D.d31 D.d30 D.d28 hc TB G30 G28
  have G32 : FnOk pg w K mg base CX0 1 D.d32.f D.d32.fd ["many"] (spNeed P0) := ok_need T D.d32
  have G33 : FnOk pg w K mg base CX0 31 D.d33.f D.d33.fd ["word", "path"] (spForm K P0 8) := ok_form T D.d33 D.d29 D.d32 D.d31 D.d30 G29 G32 G31 G30 8
  have G34 : FnOk pg w K mg base CX0 9 D.d34.f D.d34.fd ["word"] (spCopy K P0) := ok_copy D.d34 D.d21 D.d20 (G21.mono (by decide)) G20
  have G35 : FnOk pg w K mg base CX0 32 D.d35.f D.d35.fd ["word"] (spNormal K P0) := ok_normal D.d35 D.d21 D.d33 D.d28 (G21.mono (by decide)) G33 (G28.mono (by decide))
  have G36 : FnOk pg w K mg base CX0 32 D.d36.f D.d36.fd ["one", "other"] (spAlike K P0) := ok_alike D.d36 D.d22 D.d33 D.d28 (G22.mono (by decide)) G33 (G28.mono (by decide))
  have G38 : FnOk pg w K mg base CX0 1 D.d38.f D.d38.fd ["_law_script", "_law_spot"] (spDice K P0) := ok_dice T D.d38
  have G39 : FnOk pg w K mg base CX0 1 D.d39.f D.d39.fd ["_law_dice_here", "_law_most"] (spRoll P0) := ok_roll T D.d39
  have G40 : FnOk pg w K mg base CX0 2 D.d40.f D.d40.fd nPick (spPick K P0) := ok_pick T D.d40 D.d39 G39
  have G41 : FnOk pg w K mg base CX0 8 D.d41.f D.d41.fd ["_law_word"] (spTurn K P0 8) := ok_turn D.d41 8
  have G42 : FnOk pg w K mg base CX0 10 D.d42.f D.d42.fd ["_law_word"] (spLets K P0 10) := ok_lets D.d42 10
  have G43 : FnOk pg w K mg base CX0 10 D.d43.f D.d43.fd ["_law_word"] (spDep K P0 10) := ok_dep T D.d43 10
  have G44 : FnOk pg w K mg base CX0 3 D.d44.f D.d44.fd ["_law_dice_here"] (spLetr K P0) := ok_letr D.d44 D.d40 G40
  have G45 : FnOk pg w K mg base CX0 7 D.d45.f D.d45.fd ["_law_dice_here", "_law_deep"] (spWord K P0 4) := ok_word D.d45 D.d39 D.d40 D.d44 G39 G40 G44 4
  have G46 : FnOk pg w K mg base CX0 1 D.d46.f D.d46.fd nAlF (spAlF K P0) := ok_alF T D.d46
  have G47 : FnOk pg w K mg base CX0 9 D.d47.f D.d47.fd ["_law_word"] (spAl K P0 8) := ok_al T D.d47 D.d46 G46 8
  have G48 : FnOk pg w K mg base CX0 3 D.d48.f D.d48.fd ["_law_dice_here", "_law_word"] (spMov K P0) := ok_mov D.d48 D.d40 G40
  have G49 : FnOk pg w K mg base CX0 13 D.d49.f D.d49.fd ["_law_dice_here", "_law_word"] (spNear K P0 10) := ok_near D.d49 D.d39 D.d48 G39 G48 10
  have G50 : FnOk pg w K mg base CX0 20 D.d50.f D.d50.fd ["_law_form"] (spTF K P0 20) := ok_tf T D.d50 20
  have G51 : FnOk pg w K mg base CX0 20 D.d51.f D.d51.fd ["_law_form"] (spFS K P0 20) := ok_fs T D.d51 20
  have G52 : FnOk pg w K mg base CX0 11 D.d52.f D.d52.fd ["_law_dice_here", "_law_word"] (spBent K P0 8) := ok_bent D.d52 D.d39 D.d40 G39 G40 8
  have G53 : FnOk pg w K mg base CX0 21 D.d53.f D.d53.fd ["_law_word"] (spLet K P0) := ok_let D.d53 D.d42 D.d43 D.d51 D.d47 (G42.mono (by decide)) (G43.mono (by decide)) G51 (G47.mono (by decide))
  have L : Lib pg w K mg base P0 := ⟨D.d45, G45.mono (by decide), D.d53, G53.mono (by decide), D.d47, G47.mono (by decide), D.d35, G35, D.d41, G41.mono (by decide), D.d50, G50.mono (by decide), D.d39, G39.mono (by decide), D.d49, G49.mono (by decide), D.d36, G36, D.d34, G34.mono (by decide), D.d52, G52.mono (by decide), D.d40, G40.mono (by decide)⟩
  have G54 : FnOk pg w K mg base CX0 33 D.d54.f D.d54.fd ["_law_dice_here"] (spRight K P0) := ok_right T L D.d54
  exact ok_law T L D.d38 D.d54 D.d55 (G38.mono (by decide)) G54
/-- what the head leaves to be shown -/
theorem law_at {l : PySem.W.OpenLaw} {w : World} {K : PySem.W.Frag} {mg : Str → Option Value} {fa c P0 : Addr} {h : Heap} (X : K.In h) (hfa : mg "law" = some (.ref fa)) (ht : h.get? P0 = some (PySem.W.tabObj #[])) (nt : K.lookup P0 = none) (hd : PySem.W.codeHdIn K c P0 = true)
    (T : Txt K mg w) (D : AllD K mg) (hc : D.d31.fd.code = .ref c) : LawAtS l w K CX0 34 63 "_law_script" mg fa h := by
  have e := hfa.symm.trans D.d55.m
  cases e
  refine ⟨D.d55.fd, [(c, P0)], spLaw K P0, fun p hp => ?_, fun p hp => ?_, fun p hp => ?_, fun s u => ?_, fun H a ns hl _ hP hs => ?_, fun base _ _ hTB => ?_⟩
  · rw [List.mem_singleton.mp hp]
    exact ht
  · rw [List.mem_singleton.mp hp]
    exact nt
  · rw [List.mem_singleton.mp hp]
    exact PySem.W.codeHd_of_K X hd
  · obtain ⟨oc, od, kV, doc, pm, an, cdv, ct, osl, e, _⟩ := D.d55.fn.ex
    rw [e]
    exact .of_eq rfl
  · exact ⟨a, ns, rfl, hs, TabS.nil (hP _ List.mem_cons_self), fun _ => rfl⟩
  · exact law_fn T D hc (hTB _ List.mem_cons_self)
end K78
set_option Elab.async false
set_option linter.all false
set_option maxRecDepth 100000
/-! K78, part 27: what the head's facts give. -/
namespace K78
open PySem PySem.Spec PyProof.Rows L2 LamX
section
variable {K : PySem.W.Frag} {h : Heap} {mg : Str → Option Value} {f : Addr} {oc kV dc pm cd ct : Value} {od an : Option Addr} {sl : Array (Option Value)}
theorem mk_def1 {x : Str} {st : Stmt} {ps : List Str} (X : K.In h) (G : h.Ns mainGlobals mg)
    (hb : ∀ (kV doc pm : Value) (an : Option Addr) (cdv ct : Value) (us : List Value), us.length = ps.length → bindArgs (PySem.W.fnOf x x (defArgs st) (defBody st) (defScope st) .none kV doc pm an cdv ct) ⟨us, []⟩ = pure (ps.zip us))
    (a : PySem.W.nsIn K mainGlobals x = some (some (.ref f))) (l : K.lookup f = some ⟨oc, od, .func (PySem.W.fnOf x x (defArgs st) (defBody st) (defScope st) .none kV dc pm an cd ct), sl⟩) (c : PySem.W.codeIn K cd x = true) (k : PySem.W.keepIn K (.ref f) = true) : Nonempty (Def K mg x st ps) := by
  obtain ⟨d, _⟩ := mk_def X G hb a l c k
  exact ⟨d⟩
theorem mk_gath {c P0 : Addr} (X : K.In h) (G : h.Ns mainGlobals mg)
    (a : PySem.W.nsIn K mainGlobals "gathered" = some (some (.ref f))) (l : K.lookup f = some ⟨oc, od, .func (PySem.W.fnOf "gathered" "gathered" (defArgs sGath) (defBody sGath) (defScope sGath) .none kV dc pm an (.ref c) ct), sl⟩) (hc : PySem.W.codeIn K (.ref c) "gathered" = true) (k : PySem.W.keepIn K (.ref f) = true)
    (e : PySem.W.codeHdIn K c P0 = true) : ∃ (c : Addr) (d : Def K mg "gathered" sGath ["kind", "forms"]), d.fd.code = .ref c ∧ PySem.W.codeHdIn K c P0 = true := by
  obtain ⟨d, _, hd⟩ := mk_def (ps := ["kind", "forms"]) X G (fun _ _ _ _ _ _ us hl => match us, hl with | [_, _], _ => rfl) a l hc k
  exact ⟨c, d, hd, e⟩
theorem mk_txt {w : World} {t1 t2 t3 t4 t5 t6 t7 t8 t9 t10 : Tok} {aK aC aS : Addr} {oK oC : Option Addr} {iK iC : Array Value} {nK nC nS : Nat} {lK lC : Array (Option Value)} {eS : Array DictEntry} {uB uE : Value} (X : K.In h) (G : h.Ns mainGlobals mg)
    (z1 : PySem.W.nsIn K mainGlobals "isinstance" = some none) (z2 : PySem.W.nsIn K mainGlobals "int" = some none) (z3 : PySem.W.nsIn K mainGlobals "bool" = some none) (z4 : PySem.W.nsIn K mainGlobals "str" = some none)
    (z5 : PySem.W.nsIn K mainGlobals "tuple" = some none) (z6 : PySem.W.nsIn K mainGlobals "list" = some none) (z7 : PySem.W.nsIn K mainGlobals "len" = some none) (z8 : PySem.W.nsIn K mainGlobals "all" = some none)
    (z9 : PySem.W.nsIn K mainGlobals "sorted" = some none) (z10 : PySem.W.nsIn K mainGlobals "max" = some none) (z11 : PySem.W.nsIn K mainGlobals "min" = some none) (z12 : PySem.W.nsIn K mainGlobals "abs" = some none)
    (z13 : PySem.W.nsIn K mainGlobals "sum" = some none) (z14 : PySem.W.nsIn K mainGlobals "range" = some none)
    (c1 : PySem.W.nsIn K mainGlobals "LETTER" = some (some (.str "letter" t1))) (c2 : PySem.W.nsIn K mainGlobals "MINE" = some (some (.str "mine" t2))) (c3 : PySem.W.nsIn K mainGlobals "THEIRS" = some (some (.str "theirs" t3)))
    (c4 : PySem.W.nsIn K mainGlobals "MOST_LETTERS" = some (some (.int 24 t4))) (c5 : PySem.W.nsIn K mainGlobals "MAX_DEEP" = some (some (.int 8 t5))) (c6 : PySem.W.nsIn K mainGlobals "MOST_NAME" = some (some (.int 8 t6)))
    (c7 : PySem.W.nsIn K mainGlobals "TRIPLE_words" = some (some (.int 3 t7))) (c8 : PySem.W.nsIn K mainGlobals "SIGNS" = some (some (.str "abcdefghijklmnopqrstuvwxyz" t8)))
    (c9 : PySem.W.nsIn K mainGlobals "MOST_FORM" = some (some (.int 200 t9))) (c10 : PySem.W.nsIn K mainGlobals "TRIPLE_alike" = some (some (.int 3 t10)))
    (k1 : PySem.W.nsIn K mainGlobals "KINDS" = some (some (.ref aK))) (k2 : K.lookup aK = some ⟨.type "tuple", oK, .seq iK nK, lK⟩) (k3 : iK.size ≤ sizeLine) (k4 : Vals [.str "letter", .str "both", .str "either", .str "mine", .str "theirs"] iK.toList)
    (h1 : PySem.W.nsIn K mainGlobals "CHOICES" = some (some (.ref aC))) (h2 : K.lookup aC = some ⟨.type "tuple", oC, .seq iC nC, lC⟩) (h3 : iC.size ≤ sizeLine) (h4 : Vals [.str "mine", .str "theirs"] iC.toList)
    (s1 : PySem.W.nsIn K mainGlobals "SPREADS" = some (some (.ref aS))) (s2 : K.lookup aS = some ⟨.type "dict", none, .dict eS nS, #[]⟩) (s3 : PySem.W.KeysLit w.params eS.toList) (s4 : PySem.W.nsIn K aS "both" = some (some uB)) (s5 : RelV (.str "mine") uB)
    (s6 : PySem.W.nsIn K aS "either" = some (some uE)) (s7 : RelV (.str "theirs") uE) : Nonempty (Txt K mg w) :=
  ⟨⟨PySem.W.mg_none_of X G z1, PySem.W.mg_none_of X G z2, PySem.W.mg_none_of X G z3, PySem.W.mg_none_of X G z4, PySem.W.mg_none_of X G z5, PySem.W.mg_none_of X G z6, PySem.W.mg_none_of X G z7, PySem.W.mg_none_of X G z8, PySem.W.mg_none_of X G z9, PySem.W.mg_none_of X G z10, PySem.W.mg_none_of X G z11,
    PySem.W.mg_none_of X G z12, PySem.W.mg_none_of X G z13, PySem.W.mg_none_of X G z14, t1, t2, t3, t4, t5, t6, t7, t8, t9, t10, t1, t1, PySem.W.mg_of X G c1, PySem.W.mg_of X G c2, PySem.W.mg_of X G c3, PySem.W.mg_of X G c4, PySem.W.mg_of X G c5, PySem.W.mg_of X G c6, PySem.W.mg_of X G c7, PySem.W.mg_of X G c8,
    PySem.W.mg_of X G c9, PySem.W.mg_of X G c10, aK, PySem.W.mg_of X G k1, seq_of k2 k3 k4, aC, PySem.W.mg_of X G h1, seq_of h2 h3 h4, aS, PySem.W.mg_of X G s1, ⟨eS, nS, uB, s2, s3, s4, s5⟩, ⟨eS, nS, uE, s2, s3, s6, s7⟩⟩⟩
end
end K78
set_option Elab.async false
set_option linter.all false
/-! K78, part 27: the end. -/
open PySem PySem.W PyProof.Rows
set_option maxRecDepth 100000 in
set_option maxHeartbeats 0 in
theorem PySem.Challenge.cw_everyslice_k78_whole_normal_forms_holds : PySem.Challenge.rw_everyslice_k78_whole_normal_forms.Holds := by
  w_on; o_law; k_head; (case hw => w_witness2)
  k_fill
  refine LamX.walk_ofTs (l := PySem.Challenge.rw_everyslice_k78_whole_normal_forms) (n := 63) (k := 34) (x := "_law_script") (CX := fun _ => L2.CX0) rfl (by decide) rfl ⟨rfl, by decide, by decide⟩ (fun w h Y => PySem.W.km_in_of Y) ?F (fun _ _ _ _ _ z => z)
  case F =>
    intro w mg fa h Y KX G hmg
    have ht := PySem.W.km_tabs_of Y 128 (by decide)
    refine' Nonempty.elim (K78.mk_def1 (x := "is_whole") (st := K78.sWhole) (ps := ["value"]) KX G (fun _ _ _ _ _ _ us hl => match us, hl with | [_], _ => rfl) ?a16 ?l16 ?c16 ?k16) (fun d16 => ?_)
    (case a16 => k_is); (case l16 => k_is); (case c16 => k_is); (case k16 => k_is)
    refine' Nonempty.elim (K78.mk_def1 (x := "is_name") (st := K78.sName) (ps := ["value"]) KX G (fun _ _ _ _ _ _ us hl => match us, hl with | [_], _ => rfl) ?a17 ?l17 ?c17 ?k17) (fun d17 => ?_)
    (case a17 => k_is); (case l17 => k_is); (case c17 => k_is); (case k17 => k_is)
    refine' Nonempty.elim (K78.mk_def1 (x := "is_node") (st := K78.sNode) (ps := ["value"]) KX G (fun _ _ _ _ _ _ us hl => match us, hl with | [_], _ => rfl) ?a18 ?l18 ?c18 ?k18) (fun d18 => ?_)
    (case a18 => k_is); (case l18 => k_is); (case c18 => k_is); (case k18 => k_is)
    refine' Nonempty.elim (K78.mk_def1 (x := "is_word_in") (st := K78.sWordIn) (ps := ["value"]) KX G (fun _ _ _ _ _ _ us hl => match us, hl with | [_], _ => rfl) ?a19 ?l19 ?c19 ?k19) (fun d19 => ?_)
    (case a19 => k_is); (case l19 => k_is); (case c19 => k_is); (case k19 => k_is)
    refine' Nonempty.elim (K78.mk_def1 (x := "way_count_in") (st := K78.sCnt) (ps := ["word"]) KX G (fun _ _ _ _ _ _ us hl => match us, hl with | [_], _ => rfl) ?a20 ?l20 ?c20 ?k20) (fun d20 => ?_)
    (case a20 => k_is); (case l20 => k_is); (case c20 => k_is); (case k20 => k_is)
    refine' Nonempty.elim (K78.mk_def1 (x := "require_word") (st := K78.sReq) (ps := ["value"]) KX G (fun _ _ _ _ _ _ us hl => match us, hl with | [_], _ => rfl) ?a21 ?l21 ?c21 ?k21) (fun d21 => ?_)
    (case a21 => k_is); (case l21 => k_is); (case c21 => k_is); (case k21 => k_is)
    refine' Nonempty.elim (K78.mk_def1 (x := "require_two_words") (st := K78.sReq2) (ps := ["one", "other"]) KX G (fun _ _ _ _ _ _ us hl => match us, hl with | [_, _], _ => rfl) ?a22 ?l22 ?c22 ?k22) (fun d22 => ?_)
    (case a22 => k_is); (case l22 => k_is); (case c22 => k_is); (case k22 => k_is)
    refine' Nonempty.elim (K78.mk_def1 (x := "bare") (st := K78.sBare) (ps := ["form"]) KX G (fun _ _ _ _ _ _ us hl => match us, hl with | [_], _ => rfl) ?a28 ?l28 ?c28 ?k28) (fun d28 => ?_)
    (case a28 => k_is); (case l28 => k_is); (case c28 => k_is); (case k28 => k_is)
    refine' Nonempty.elim (K78.mk_def1 (x := "form_letters") (st := K78.sFLet) (ps := ["form"]) KX G (fun _ _ _ _ _ _ us hl => match us, hl with | [_], _ => rfl) ?a29 ?l29 ?c29 ?k29) (fun d29 => ?_)
    (case a29 => k_is); (case l29 => k_is); (case c29 => k_is); (case k29 => k_is)
    refine' Nonempty.elim (K78.mk_def1 (x := "parts_by") (st := K78.sPBy) (ps := ["kind", "form"]) KX G (fun _ _ _ _ _ _ us hl => match us, hl with | [_, _], _ => rfl) ?a30 ?l30 ?c30 ?k30) (fun d30 => ?_)
    (case a30 => k_is); (case l30 => k_is); (case c30 => k_is); (case k30 => k_is)
    refine' Exists.elim (K78.mk_gath (P0 := 128) KX G ?a31 ?l31 ?c31 ?k31 ?e31) (fun c x => Exists.elim x fun d31 hcd => ?_)
    (case a31 => k_is); (case l31 => k_is); (case c31 => k_is); (case k31 => k_is); (case e31 => kernel_rfl)
    refine' Nonempty.elim (K78.mk_def1 (x := "need_form") (st := K78.sNeed) (ps := ["many"]) KX G (fun _ _ _ _ _ _ us hl => match us, hl with | [_], _ => rfl) ?a32 ?l32 ?c32 ?k32) (fun d32 => ?_)
    (case a32 => k_is); (case l32 => k_is); (case c32 => k_is); (case k32 => k_is)
    refine' Nonempty.elim (K78.mk_def1 (x := "form_in") (st := K78.sForm) (ps := ["word", "path"]) KX G (fun _ _ _ _ _ _ us hl => match us, hl with | [_, _], _ => rfl) ?a33 ?l33 ?c33 ?k33) (fun d33 => ?_)
    (case a33 => k_is); (case l33 => k_is); (case c33 => k_is); (case k33 => k_is)
    refine' Nonempty.elim (K78.mk_def1 (x := "copy_count") (st := K78.sCopy) (ps := ["word"]) KX G (fun _ _ _ _ _ _ us hl => match us, hl with | [_], _ => rfl) ?a34 ?l34 ?c34 ?k34) (fun d34 => ?_)
    (case a34 => k_is); (case l34 => k_is); (case c34 => k_is); (case k34 => k_is)
    refine' Nonempty.elim (K78.mk_def1 (x := "normal") (st := K78.sNormal) (ps := ["word"]) KX G (fun _ _ _ _ _ _ us hl => match us, hl with | [_], _ => rfl) ?a35 ?l35 ?c35 ?k35) (fun d35 => ?_)
    (case a35 => k_is); (case l35 => k_is); (case c35 => k_is); (case k35 => k_is)
    refine' Nonempty.elim (K78.mk_def1 (x := "are_alike") (st := K78.sAlike) (ps := ["one", "other"]) KX G (fun _ _ _ _ _ _ us hl => match us, hl with | [_, _], _ => rfl) ?a36 ?l36 ?c36 ?k36) (fun d36 => ?_)
    (case a36 => k_is); (case l36 => k_is); (case c36 => k_is); (case k36 => k_is)
    refine' Nonempty.elim (K78.mk_def1 (x := "_law_dice") (st := K78.sDice) (ps := ["_law_script", "_law_spot"]) KX G (fun _ _ _ _ _ _ us hl => match us, hl with | [_, _], _ => rfl) ?a38 ?l38 ?c38 ?k38) (fun d38 => ?_)
    (case a38 => k_is); (case l38 => k_is); (case c38 => k_is); (case k38 => k_is)
    refine' Nonempty.elim (K78.mk_def1 (x := "_law_roll") (st := K78.sRoll) (ps := ["_law_dice_here", "_law_most"]) KX G (fun _ _ _ _ _ _ us hl => match us, hl with | [_, _], _ => rfl) ?a39 ?l39 ?c39 ?k39) (fun d39 => ?_)
    (case a39 => k_is); (case l39 => k_is); (case c39 => k_is); (case k39 => k_is)
    refine' Nonempty.elim (K78.mk_def1 (x := "_law_pick") (st := K78.sPick) (ps := K78.nPick) KX G (fun _ _ _ _ _ _ us hl => match us, hl with | [_, _], _ => rfl) ?a40 ?l40 ?c40 ?k40) (fun d40 => ?_)
    (case a40 => k_is); (case l40 => k_is); (case c40 => k_is); (case k40 => k_is)
    refine' Nonempty.elim (K78.mk_def1 (x := "_law_dr_turned") (st := K78.sTurn) (ps := ["_law_word"]) KX G (fun _ _ _ _ _ _ us hl => match us, hl with | [_], _ => rfl) ?a41 ?l41 ?c41 ?k41) (fun d41 => ?_)
    (case a41 => k_is); (case l41 => k_is); (case c41 => k_is); (case k41 => k_is)
    refine' Nonempty.elim (K78.mk_def1 (x := "_law_dr_letters") (st := K78.sLets) (ps := ["_law_word"]) KX G (fun _ _ _ _ _ _ us hl => match us, hl with | [_], _ => rfl) ?a42 ?l42 ?c42 ?k42) (fun d42 => ?_)
    (case a42 => k_is); (case l42 => k_is); (case c42 => k_is); (case k42 => k_is)
    refine' Nonempty.elim (K78.mk_def1 (x := "_law_dr_depth") (st := K78.sDep) (ps := ["_law_word"]) KX G (fun _ _ _ _ _ _ us hl => match us, hl with | [_], _ => rfl) ?a43 ?l43 ?c43 ?k43) (fun d43 => ?_)
    (case a43 => k_is); (case l43 => k_is); (case c43 => k_is); (case k43 => k_is)
    refine' Nonempty.elim (K78.mk_def1 (x := "_law_dr_letter") (st := K78.sLetr) (ps := ["_law_dice_here"]) KX G (fun _ _ _ _ _ _ us hl => match us, hl with | [_], _ => rfl) ?a44 ?l44 ?c44 ?k44) (fun d44 => ?_)
    (case a44 => k_is); (case l44 => k_is); (case c44 => k_is); (case k44 => k_is)
    refine' Nonempty.elim (K78.mk_def1 (x := "_law_dr_word") (st := K78.sWord) (ps := ["_law_dice_here", "_law_deep"]) KX G (fun _ _ _ _ _ _ us hl => match us, hl with | [_, _], _ => rfl) ?a45 ?l45 ?c45 ?k45) (fun d45 => ?_)
    (case a45 => k_is); (case l45 => k_is); (case c45 => k_is); (case k45 => k_is)
    refine' Nonempty.elim (K78.mk_def1 (x := "_law_al_forms") (st := K78.sAlF) (ps := K78.nAlF) KX G (fun _ _ _ _ _ _ us hl => match us, hl with | [_, _], _ => rfl) ?a46 ?l46 ?c46 ?k46) (fun d46 => ?_)
    (case a46 => k_is); (case l46 => k_is); (case c46 => k_is); (case k46 => k_is)
    refine' Nonempty.elim (K78.mk_def1 (x := "_law_al_form") (st := K78.sAl) (ps := ["_law_word"]) KX G (fun _ _ _ _ _ _ us hl => match us, hl with | [_], _ => rfl) ?a47 ?l47 ?c47 ?k47) (fun d47 => ?_)
    (case a47 => k_is); (case l47 => k_is); (case c47 => k_is); (case k47 => k_is)
    refine' Nonempty.elim (K78.mk_def1 (x := "_law_al_moved") (st := K78.sMov) (ps := ["_law_dice_here", "_law_word"]) KX G (fun _ _ _ _ _ _ us hl => match us, hl with | [_, _], _ => rfl) ?a48 ?l48 ?c48 ?k48) (fun d48 => ?_)
    (case a48 => k_is); (case l48 => k_is); (case c48 => k_is); (case k48 => k_is)
    refine' Nonempty.elim (K78.mk_def1 (x := "_law_al_near") (st := K78.sNear) (ps := ["_law_dice_here", "_law_word"]) KX G (fun _ _ _ _ _ _ us hl => match us, hl with | [_, _], _ => rfl) ?a49 ?l49 ?c49 ?k49) (fun d49 => ?_)
    (case a49 => k_is); (case l49 => k_is); (case c49 => k_is); (case k49 => k_is)
    refine' Nonempty.elim (K78.mk_def1 (x := "_law_al_turned_form") (st := K78.sTF) (ps := ["_law_form"]) KX G (fun _ _ _ _ _ _ us hl => match us, hl with | [_], _ => rfl) ?a50 ?l50 ?c50 ?k50) (fun d50 => ?_)
    (case a50 => k_is); (case l50 => k_is); (case c50 => k_is); (case k50 => k_is)
    refine' Nonempty.elim (K78.mk_def1 (x := "_law_fm_size") (st := K78.sFS) (ps := ["_law_form"]) KX G (fun _ _ _ _ _ _ us hl => match us, hl with | [_], _ => rfl) ?a51 ?l51 ?c51 ?k51) (fun d51 => ?_)
    (case a51 => k_is); (case l51 => k_is); (case c51 => k_is); (case k51 => k_is)
    refine' Nonempty.elim (K78.mk_def1 (x := "_law_fm_bent") (st := K78.sBent) (ps := ["_law_dice_here", "_law_word"]) KX G (fun _ _ _ _ _ _ us hl => match us, hl with | [_, _], _ => rfl) ?a52 ?l52 ?c52 ?k52) (fun d52 => ?_)
    (case a52 => k_is); (case l52 => k_is); (case c52 => k_is); (case k52 => k_is)
    refine' Nonempty.elim (K78.mk_def1 (x := "_law_fm_is_let") (st := K78.sLet) (ps := ["_law_word"]) KX G (fun _ _ _ _ _ _ us hl => match us, hl with | [_], _ => rfl) ?a53 ?l53 ?c53 ?k53) (fun d53 => ?_)
    (case a53 => k_is); (case l53 => k_is); (case c53 => k_is); (case k53 => k_is)
    refine' Nonempty.elim (K78.mk_def1 (x := "_law_right") (st := K78.sRight) (ps := ["_law_dice_here"]) KX G (fun _ _ _ _ _ _ us hl => match us, hl with | [_], _ => rfl) ?a54 ?l54 ?c54 ?k54) (fun d54 => ?_)
    (case a54 => k_is); (case l54 => k_is); (case c54 => k_is); (case k54 => k_is)
    refine' Nonempty.elim (K78.mk_def1 (x := "law") (st := K78.sLaw) (ps := ["_law_script"]) KX G (fun _ _ _ _ _ _ us hl => match us, hl with | [_], _ => rfl) ?a55 ?l55 ?c55 ?k55) (fun d55 => ?_)
    (case a55 => k_is); (case l55 => k_is); (case c55 => k_is); (case k55 => k_is)
    refine' Nonempty.elim (K78.mk_txt (w := w) KX G ?t_z1 ?t_z2 ?t_z3 ?t_z4 ?t_z5 ?t_z6 ?t_z7 ?t_z8 ?t_z9 ?t_z10 ?t_z11 ?t_z12 ?t_z13 ?t_z14 ?t_c1 ?t_c2 ?t_c3 ?t_c4 ?t_c5 ?t_c6 ?t_c7 ?t_c8 ?t_c9 ?t_c10 ?t_k1 ?t_k2 ?t_k3 ?t_k4 ?t_h1 ?t_h2 ?t_h3 ?t_h4 ?t_s1 ?t_s2 ?t_s3 ?t_s4 ?t_s5 ?t_s6 ?t_s7) (fun T => ?_)
    (case t_z1 => k_is)
    (case t_z2 => k_is)
    (case t_z3 => k_is)
    (case t_z4 => k_is)
    (case t_z5 => k_is)
    (case t_z6 => k_is)
    (case t_z7 => k_is)
    (case t_z8 => k_is)
    (case t_z9 => k_is)
    (case t_z10 => k_is)
    (case t_z11 => k_is)
    (case t_z12 => k_is)
    (case t_z13 => k_is)
    (case t_z14 => k_is)
    (case t_c1 => k_is)
    (case t_c2 => k_is)
    (case t_c3 => k_is)
    (case t_c4 => k_is)
    (case t_c5 => k_is)
    (case t_c6 => k_is)
    (case t_c7 => k_is)
    (case t_c8 => k_is)
    (case t_c9 => k_is)
    (case t_c10 => k_is)
    (case t_k1 => k_is)
    (case t_k2 => k_is)
    (case t_k3 => decide)
    (case t_k4 => exact .cons ⟨_, rfl⟩ (.cons ⟨_, rfl⟩ (.cons ⟨_, rfl⟩ (.cons ⟨_, rfl⟩ (.cons ⟨_, rfl⟩ .nil)))))
    (case t_h1 => k_is)
    (case t_h2 => k_is)
    (case t_h3 => decide)
    (case t_h4 => exact .cons ⟨_, rfl⟩ (.cons ⟨_, rfl⟩ .nil))
    (case t_s1 => k_is)
    (case t_s2 => k_is)
    (case t_s3 => exact ⟨⟨_, _, rfl, rfl⟩, ⟨_, _, rfl, rfl⟩, trivial⟩)
    (case t_s4 => k_is)
    (case t_s5 => exact ⟨_, rfl⟩)
    (case t_s6 => k_is)
    (case t_s7 => exact ⟨_, rfl⟩)
    exact K78.law_at KX hmg ht (by kernel_rfl) hcd.2 T ⟨d16, d17, d18, d19, d20, d21, d22, d28, d29, d30, d31, d32, d33, d34, d35, d36, d38, d39, d40, d41, d42, d43, d44, d45, d46, d47, d48, d49, d50, d51, d52, d53, d54, d55⟩ hcd.1
